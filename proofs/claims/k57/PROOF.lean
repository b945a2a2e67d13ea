import PyProof.Rows.All
import Wide.All
import OpenK.AllK
import Wide.FinOn
import HandS.ForMost
import HandS.TupAny
import HandS.TupMul
import HandS.Exc
import HandS.ExcCtx
import KE.KeyNested
import HandS.Wide
import HandS.StrMore
import HandS.Style
import HandS.Flow
import PyProof.StrBlock2
import PyProof.ReprRoads
import HandS.NoneIn
import HandS.Deep
import PyProof.StrLawsFrom
import PyProof.Rows.StrRev
import HandS.IsInst
import HandS.Zip
import PyProof.EnumMake
import PyProof.Draws
import HandS.Star
import KE.GoesEnum
import KE.KDictZip
import HandS.DictTup
import HandS.Strs
import HandS.WideBits
import HandS.Replace
import HandS.ReplaceList
import PyProof.Rows.StrBetween
import HandS.NamedTupSort
import HandS.SortInts
import HandS.SetFor
import PyProof.P3In
import HandS.ExcIs
import HandS.ExcOwn
import HandS.ExcField
import HandS.Small
import KE.KExcInit
import KE.KExcIs
import KE.KExcLine
import HandS.Conv
import PyProof.CallStr
import PyProof.Rows.IntBool
import KE.DatumOrd
import KE.BitLaws
import PyProof.DictRoadsH
import PySem.Challenge.RW_carbonpad_k57_best_orders_of_many_sheets
set_option Elab.async false
set_option linter.all false
set_option maxRecDepth 100000
set_option maxHeartbeats 1000000
namespace DL
open PySem PySem.Spec PyProof.Rows L2
/-- a tuple at p that nobody knows: it has no dict -/
def newT (H : Hp) (Q : VK) (vs : List V) : Prop := ∀ (p : Addr) (ob : Obj), H p = none → ob.dict = none → Q (.ref p) (upd H p (.frz ob (.tup vs)))
section
variable {X : Cx}
/-- the object just pushed -/
theorem fin_tup {pins : List (Addr × Obj)} {σ : L2.St} {H : Hp} {s : Shared} {Q : VK} {vs : List V} {its : List Value} (I : Inv X pins σ H s) (hz : vs.length ≤ sizeLine) (r : Vals vs its) (q : newT H Q vs) :
    EP X pins σ Q (.ref s.heap.objs.size) { s with heap := s.heap.push { cls := .type "tuple", data := .seq its.toArray } } :=
  ⟨.ref s.heap.objs.size, _, I.laid (t' := s.toks) (o := .frz { cls := .type "tuple", data := .seq its.toArray } (.tup vs)) (fun b ob q => Heap.get?_push_of_some _ q) (Nat.le_refl _) ⟨Heap.get?_push_size _ rfl, hz, its, r, IsTup.new _ _⟩, rfl, q _ _ (I.hok.fresh (Nat.le_refl _)) rfl⟩
/-- a display -/
def tTupZ (t : TA) : TE := fun σ H Q => t σ H fun xs H1 => xs.length ≤ sizeLine ∧ newT H1 Q xs
theorem pe_tupZ {es : List Expr} {t : TA} {x1 : Nat} {pos : Pos} (h : PA X es t) : PE X (.Tuple es x1 pos) (tTupZ t) := by
  refine ⟨fun pins s σ H Q I hq => ?_⟩
  refine wpAny_Tuple_spliced (thn (h.run pos pins s σ H _ I hq) fun us s1 ⟨xs, H1, I1, r, z, q⟩ => ⟨by rw [← r.length]; exact z, ?_⟩)
  exact fin_tup I1 z r q
/-- tuple(x) -/
def rTupZ (K : PySem.W.Frag) : List V → Hp → VK → Prop := fun xs H Q => ∃ p ys, xs = [.ref p] ∧ ((SqL K H p ys ∧ newT H Q ys) ∨ (SqT K H p ys ∧ Q (.ref p) H))
theorem call_tupZ : CallR X (.type "tuple") (rTupZ X.K) := by
  intro pins s σ H xs us Q I r h
  obtain ⟨p, ys, rfl, h⟩ := h
  obtain ⟨u, rfl, rx⟩ := vals1 r
  cases rx
  rcases h with ⟨hq, q⟩ | ⟨hq, q⟩
  · obtain ⟨its, r', pl, hz⟩ := I.list hq
    have hlen := r'.length
    refine call_tuple_list pl.isList (fun h' kp => ?_) (by simp only [List.size_toArray] <;> omega)
    have I1 : Inv X pins σ H { s with heap := h' } := I.kept (t' := s.toks) kp
    exact fin_tup I1 hz r' q
  · obtain ⟨its, r', pl, hz⟩ := I.tuple hq
    exact call_tuple_same pl ⟨.ref p, H, I, rfl, q⟩
/-- x + y -/
def rCatZ (K : PySem.W.Frag) : R2 := fun x y H Q => ∃ a b xs ys, x = .ref a ∧ y = .ref b ∧ SqT K H a xs ∧ SqT K H b ys ∧ xs.length + ys.length ≤ sizeLine ∧
  (xs = [] → Q (.ref b) H) ∧ (xs ≠ [] → ys = [] → Q (.ref a) H) ∧ (xs ≠ [] → ys ≠ [] → newT H Q (xs ++ ys))
theorem op_catZ : OpR X (binaryOp .Add) (rCatZ X.K) := by
  intro pins s σ H x y v u Q I rx ry h
  obtain ⟨a, b, xs, ys, rfl, rfl, ha, hb, hz, q0, q1, q2⟩ := h
  cases rx
  cases ry
  obtain ⟨its, r1, p1, _⟩ := I.tuple ha
  obtain ⟨its2, r2, p2, _⟩ := I.tuple hb
  by_cases hx : xs = []
  · subst hx
    cases r1
    exact cat_tup0 p1 p2 ⟨.ref b, H, I, rfl, q0 rfl⟩
  · refine HT.cat_tup p1 p2 (fun z => hx (r1.nil_iff.mp z)) (fun z => ⟨.ref a, H, I, rfl, q1 hx (r2.nil_iff.mp z)⟩) (fun z => ?_) (by rw [← r1.length, ← r2.length]; exact hz)
    exact fin_tup I (by rw [List.length_append]; exact hz) (r1.append r2) (q2 hx fun w => z (r2.nil_iff.mpr w))
/-- x[i:j] -/
def rSlZ (K : PySem.W.Frag) : V → Option Int → Option Int → Hp → VK → Prop := fun x lo hi H Q => ∃ a xs, x = .ref a ∧ SqT K H a xs ∧
  (HT.sIx xs.length 0 lo = 0 ∧ HT.sIx xs.length xs.length hi = xs.length → Q (.ref a) H) ∧ (¬ (HT.sIx xs.length 0 lo = 0 ∧ HT.sIx xs.length xs.length hi = xs.length) → newT H Q (cutV xs lo hi))
theorem sl_tupZ : SlR X (rSlZ X.K) := by
  intro pins s σ H x v vl vu lo hi sl Q I rx hs pl pu h
  obtain ⟨a, xs, rfl, hx, q1, q2⟩ := h
  cases rx
  obtain ⟨its, r, ht, hz⟩ := I.tuple hx
  have hlen : its.toArray.size = xs.length := by rw [List.size_toArray]; exact r.length.symm
  refine ⟨"tuple", _, PyProof.Rows.slot_tuple_getitem.lookup, ht.typeIs, ?_⟩
  by_cases hw : HT.sIx xs.length 0 lo = 0 ∧ HT.sIx xs.length xs.length hi = xs.length
  · exact getItem_tuple_whole ht hs pl pu (by rw [hlen]; exact hw) ⟨.ref a, H, I, rfl, q1 hw⟩
  · refine HT.getItem_tuple_cut ht hs pl pu (by rw [hlen]; exact hw) ?_ (by rw [hlen]; exact hz)
    rw [hlen]
    exact fin_tup I (Nat.le_trans (cutV_length xs lo hi) hz) ((r.drop (HT.sIx xs.length 0 lo)).take (HT.sIx xs.length xs.length hi - HT.sIx xs.length 0 lo)) (q2 hw)
/-- x * k, x not empty, 2 <= k -/
def rRepZ (K : PySem.W.Frag) : R2 := fun x y H Q => ∃ l k xs, x = .ref l ∧ y = .int k ∧ SqT K H l xs ∧ xs ≠ [] ∧ 2 ≤ k ∧ k ≤ 1000 ∧ xs.length ≤ 1000 ∧ newT H Q (List.replicate k.toNat xs).flatten
theorem op_repZ : OpR X (binaryOp .Mult) (rRepZ X.K) := by
  intro pins s σ H x y v u Q I rx ry h
  obtain ⟨l, k, xs, rfl, rfl, hT, hne, h1, h2, hz, q⟩ := h
  cases rx
  obtain ⟨t, rfl⟩ := ry
  obtain ⟨its, r, ⟨⟨cls, dd, data, sl⟩, ho, hc, n, hd⟩, hs⟩ := I.tuple hT
  simp only at hc hd
  subst hc hd
  have el : its.length = xs.length := r.length.symm
  have ne : its ≠ [] := fun e => hne (List.eq_nil_of_length_eq_zero (by rw [← el, e]; rfl))
  have em : its.toArray.isEmpty = false := by cases its with | nil => exact absurd rfl ne | cons a b => rfl
  have es : its.toArray.size = xs.length := by rw [List.size_toArray, el]
  have hm : ((its.toArray.size : Nat) : Int) * k ≤ 1000000 := by
    rw [es]
    have a1 : ((xs.length : Nat) : Int) * k ≤ 1000 * k := Int.mul_le_mul_of_nonneg_right (by omega) (by omega)
    omega
  have a1 : k.toNat * xs.length ≤ 1000 * 1000 := Nat.mul_le_mul (by omega) hz
  have fl : (List.replicate k.toNat its).flatten.length ≤ sizeLine := by rw [PyProof.Rows.lm_len_rep_flat, el, sizeLine_eq]; omega
  have d0 : (decide (k < -(2 ^ 63)) || decide (k ≥ 2 ^ 63)) = false := by rw [decide_eq_false (by omega), decide_eq_false (by omega)] <;> rfl
  have d1 : (its.toArray.isEmpty || k == 1) = false := by rw [em, Bool.false_or]; exact beq_eq_false_iff_ne.mpr (by omega)
  have d2 : (decide (k ≤ 0) || its.toArray.isEmpty) = false := by rw [em, Bool.or_false]; exact decide_eq_false (by omega)
  have d4 : Builtin.Tuple.tupleTooMany (((its.toArray.size : Nat) : Int) * k) = false := by unfold Builtin.Tuple.tupleTooMany; rw [sizeLine_eq]; exact decide_eq_false (by omega)
  refine wpAny_binaryOp_repeat_ref (T := "tuple") (U := "int") (by decide) ⟨_, ho, rfl⟩ (fun s' => typeIs_int s' k t) noFill_tuple_mul F.fills_int_mul F.slot_int_rmul repeat_tuple F.slot_int_index.lookup
    (call_meets F.slot_int_rmul (typeIs_int s k t) F.entry_int_rmul (F.args_int_rmul_2 _ _) (int_rmul_tuple k t l its.toArray n dd sl)
      ⟨ho, rfl, ⟨_, ho, rfl⟩, call_meets F.slot_tuple_mul ⟨_, ho, rfl⟩ F.entry_tuple_mul (F.args_tuple_mul_2 _ _) (tuple_mulW l its.toArray n dd sl k t d0 d1 d2 (by omega) d4 (by rw [size_rep, List.size_toArray]; exact fl)) ⟨ho, ?_⟩⟩)
  rw [size_rep]
  exact fin_tup I (by rw [PyProof.Rows.lm_len_rep_flat, sizeLine_eq]; omega) (r.rep k.toNat) q
end
end DL

namespace DL
open PySem PySem.Spec PyProof.Rows L2

/-- a text by its signs -/
abbrev S (l : List Nat) : Str := ⟨l.toArray⟩
/-- data as a tree; ref: an object that changes; obj: an own instance that does not; exn: an exception that was caught; gl: a def or a class of the module; scr: the script -/
inductive D where
  | non | bl (b : Bool) | int (i : Int) | str (x : List Nat) | tup (xs : List D) | lst (xs : List D)
  | dct (kvs : List (Key × D)) | scr (ns : List Int) | ref (a : Addr) | ty (n : String) | gl (x : Str) | pr (a b : D) | obj (c : Str) (fs : List (Str × D)) | exn (c : Str) (fs : List (Str × D))
/-- a tuple that is known to have no dict -/
def PlT (F : Hp) (a : Addr) (vs : List V) : Prop := ∃ ob : Obj, ob.dict = none ∧ F a = some (.frz ob (.tup vs))
/-- an object that changes -/
inductive MO where
  | lst (xs : List D) | ins (c : Str) (fs : List (Str × D)) | dct (kvs : List (Key × D)) | dtt (kvs : List (List Key × D)) | dnn (kvs : List (NestedKey × D)) | xd (fs : List (Str × D)) | exz (c : Str) (fs : List (Str × D))
abbrev Sto := Addr → Option MO
def sset (μ : Sto) (a : Addr) (o : MO) : Sto := fun b => if b = a then some o else μ b
theorem sset_same {μ : Sto} {a : Addr} {o : MO} : sset μ a o a = some o := if_pos rfl
theorem sset_ne {μ : Sto} {a b : Addr} {o : MO} (h : b ≠ a) : sset μ a o b = μ b := if_neg h
/-- what a slot holds: a value; a list of the frame's own, which nobody else knows -/
inductive DS where
  | val (d : D) | own (xs : List D)
abbrev DEnv := List (Option DS)

mutual
inductive Dt (K : PySem.W.Frag) (mg : Str → Option Value) (F : Hp) : V → D → Prop
  | non : Dt K mg F .non .non
  | bl (b : Bool) : Dt K mg F (.bl b) (.bl b)
  | int (i : Int) : Dt K mg F (.int i) (.int i)
  | str (x : List Nat) : Dt K mg F (.str (S x)) (.str x)
  | tup {a : Addr} {vs : List V} {ds : List D} : PlT F a vs → Dts K mg F vs ds → Dt K mg F (.ref a) (.tup ds)
  | lst {a : Addr} {vs : List V} {ds : List D} : F a = some (.lst vs) → Dts K mg F vs ds → Dt K mg F (.ref a) (.lst ds)
  | dct {a : Addr} {vs : List (Key × V)} {ds : List (Key × D)} : F a = some (.dK vs) → Dks K mg F vs ds → Dt K mg F (.ref a) (.dct ds)
  | scr {a : Addr} {ns : List Int} : SqL K F a (ns.map V.int) → Dt K mg F (.ref a) (.scr ns)
  | ref (a : Addr) : Dt K mg F (.ref a) (.ref a)
  | ty (n : String) : Dt K mg F (.ty n) (.ty n)
  | gl {x : Str} {a : Addr} : mg x = some (.ref a) → Dt K mg F (.ref a) (.gl x)
  | pr {a : Addr} {v w : V} {d e : D} : F a = some (.tup [v, w]) → Dt K mg F v d → Dt K mg F w e → Dt K mg F (.ref a) (.pr d e)
  | obj {a C dx : Addr} {c : Str} {vfs : List (Str × V)} {fs : List (Str × D)} : mg c = some (.ref C) → F a = some (.ins C dx vfs) → vfs.map (·.1) = fs.map (·.1) → Dts K mg F (vfs.map (·.2)) (fs.map (·.2)) → Dt K mg F (.ref a) (.obj c fs)
  | exn0 {a C : Addr} {c : Str} {oe : Obj} : mg c = some (.ref C) → F a = some (.frz oe (.own 0)) → Zc (.ref C) none oe → (∃ vs, oe.data = .fields vs) → Dt K mg F (.ref a) (.exn c [])
  | exn1 {a C dx : Addr} {c : Str} {oe : Obj} {vfs : List (Str × V)} {fs : List (Str × D)} : mg c = some (.ref C) → F a = some (.frz oe (.own 0)) → Zc (.ref C) (some dx) oe → (∃ vs, oe.data = .fields vs) → F dx = some (.xd vfs) → vfs.map (·.1) = fs.map (·.1) → Dts K mg F (vfs.map (·.2)) (fs.map (·.2)) → Dt K mg F (.ref a) (.exn c fs)
inductive Dts (K : PySem.W.Frag) (mg : Str → Option Value) (F : Hp) : List V → List D → Prop
  | nil : Dts K mg F [] []
  | cons {v : V} {vs : List V} {d : D} {ds : List D} : Dt K mg F v d → Dts K mg F vs ds → Dts K mg F (v :: vs) (d :: ds)
inductive Dks (K : PySem.W.Frag) (mg : Str → Option Value) (F : Hp) : List (Key × V) → List (Key × D) → Prop
  | nil : Dks K mg F [] []
  | cons {k : Key} {v : V} {vs : List (Key × V)} {d : D} {ds : List (Key × D)} : Dt K mg F v d → Dks K mg F vs ds → Dks K mg F ((k, v) :: vs) ((k, d) :: ds)
end

section
variable {K : PySem.W.Frag} {mg : Str → Option Value} {F F' H H' : Hp}
theorem SqT.mono' {a : Addr} {vs : List V} (hF : ∀ a o, F a = some o → F' a = some o) (h : SqT K F a vs) : SqT K F' a vs := by
  rcases h with (h | ⟨o, h⟩) | h
  · exact .inl (.inl (hF _ _ h))
  · exact .inl (.inr ⟨o, hF _ _ h⟩)
  · exact .inr h
theorem PlT.mono {a : Addr} {vs : List V} (hF : ∀ a o, F a = some o → F' a = some o) (h : PlT F a vs) : PlT F' a vs := let ⟨ob, h1, h2⟩ := h; ⟨ob, h1, hF _ _ h2⟩
theorem PlT.sq {a : Addr} {vs : List V} (h : PlT F a vs) : SqT K F a vs := let ⟨ob, _, h2⟩ := h; .inl (.inr ⟨ob, h2⟩)
theorem SqL.mono' {a : Addr} {vs : List V} (hF : ∀ a o, F a = some o → F' a = some o) (h : SqL K F a vs) : SqL K F' a vs := by
  rcases h with (h | ⟨o, h⟩) | h
  · exact .inl (.inl (hF _ _ h))
  · exact .inl (.inr ⟨o, hF _ _ h⟩)
  · exact .inr h
mutual
theorem Dt.mono (hF : ∀ a o, F a = some o → F' a = some o) : ∀ {v : V} {d : D}, Dt K mg F v d → Dt K mg F' v d
  | _, _, .non => .non
  | _, _, .bl b => .bl b
  | _, _, .int i => .int i
  | _, _, .str x => .str x
  | _, _, .tup h r => .tup (h.mono hF) (Dts.mono hF r)
  | _, _, .lst h r => .lst (hF _ _ h) (Dts.mono hF r)
  | _, _, .dct h r => .dct (hF _ _ h) (Dks.mono hF r)
  | _, _, .scr h => .scr (SqL.mono' hF h)
  | _, _, .ref a => .ref a
  | _, _, .ty n => .ty n
  | _, _, .gl h => .gl h
  | _, _, .pr h a b => .pr (hF _ _ h) (Dt.mono hF a) (Dt.mono hF b)
  | _, _, .obj h1 h2 h3 h4 => .obj h1 (hF _ _ h2) h3 (Dts.mono hF h4)
  | _, _, .exn0 h1 h2 h3 h4 => .exn0 h1 (hF _ _ h2) h3 h4
  | _, _, .exn1 h1 h2 h3 h4 h5 h6 h7 => .exn1 h1 (hF _ _ h2) h3 h4 (hF _ _ h5) h6 (Dts.mono hF h7)
theorem Dts.mono (hF : ∀ a o, F a = some o → F' a = some o) : ∀ {vs : List V} {ds : List D}, Dts K mg F vs ds → Dts K mg F' vs ds
  | _, _, .nil => .nil
  | _, _, .cons h r => .cons (Dt.mono hF h) (Dts.mono hF r)
theorem Dks.mono (hF : ∀ a o, F a = some o → F' a = some o) : ∀ {vs : List (Key × V)} {ds : List (Key × D)}, Dks K mg F vs ds → Dks K mg F' vs ds
  | _, _, .nil => .nil
  | _, _, .cons h r => .cons (Dt.mono hF h) (Dks.mono hF r)
end
theorem Dts.length : ∀ {vs : List V} {ds : List D}, Dts K mg F vs ds → vs.length = ds.length
  | _, _, .nil => rfl
  | _, _, .cons _ r => congrArg (· + 1) r.length
theorem Dts.get : ∀ {vs : List V} {ds : List D} {i : Nat} {d : D}, Dts K mg F vs ds → ds[i]? = some d → ∃ v, vs[i]? = some v ∧ Dt K mg F v d
  | _, _, _, _, .nil, e => by simp at e
  | _, _, 0, _, .cons r _, e => by simp at e; subst e; exact ⟨_, rfl, r⟩
  | _, _, i + 1, d, .cons _ t, e => by
    obtain ⟨u, h1, h2⟩ := Dts.get (i := i) (d := d) t (by simpa using e)
    exact ⟨u, by simpa using h1, h2⟩
theorem Dts.getV : ∀ {vs : List V} {ds : List D} {i : Nat} {v : V}, Dts K mg F vs ds → vs[i]? = some v → ∃ d, ds[i]? = some d ∧ Dt K mg F v d
  | _, _, _, _, .nil, e => by simp at e
  | _, _, 0, _, .cons r _, e => by simp at e; subst e; exact ⟨_, rfl, r⟩
  | _, _, i + 1, v, .cons _ t, e => by
    obtain ⟨u, h1, h2⟩ := Dts.getV (i := i) (v := v) t (by simpa using e)
    exact ⟨u, by simpa using h1, h2⟩
theorem Dts.append : ∀ {vs ws : List V} {ds es : List D}, Dts K mg F vs ds → Dts K mg F ws es → Dts K mg F (vs ++ ws) (ds ++ es)
  | _, _, _, _, .nil, s => s
  | _, _, _, _, .cons r t, s => .cons r (Dts.append t s)
theorem Dts.take : ∀ {vs : List V} {ds : List D} (n : Nat), Dts K mg F vs ds → Dts K mg F (vs.take n) (ds.take n)
  | _, _, 0, _ => .nil
  | _, _, _ + 1, .nil => .nil
  | _, _, n + 1, .cons r t => .cons r (Dts.take n t)
theorem Dts.drop : ∀ {vs : List V} {ds : List D} (n : Nat), Dts K mg F vs ds → Dts K mg F (vs.drop n) (ds.drop n)
  | _, _, 0, r => r
  | _, _, _ + 1, .nil => .nil
  | _, _, n + 1, .cons _ t => Dts.drop n t
theorem Dts.set {v : V} {d : D} (r : Dt K mg F v d) : ∀ {vs : List V} {ds : List D} (i : Nat), Dts K mg F vs ds → Dts K mg F (vs.set i v) (ds.set i d)
  | _, _, _, .nil => .nil
  | _, _, 0, .cons _ t => .cons r t
  | _, _, i + 1, .cons q t => .cons q (Dts.set r i t)
theorem Dts.revAux : ∀ {vs : List V} {ds : List D} {ws : List V} {es : List D}, Dts K mg F vs ds → Dts K mg F ws es → Dts K mg F (vs.reverseAux ws) (ds.reverseAux es)
  | _, _, _, _, .nil, s => s
  | v :: vs, d :: ds, ws, es, .cons a b, s => Dts.revAux (vs := vs) (ds := ds) (ws := v :: ws) (es := d :: es) b (.cons a s)
theorem Dts.reverse {vs : List V} {ds : List D} (r : Dts K mg F vs ds) : Dts K mg F vs.reverse ds.reverse := Dts.revAux r .nil
theorem Dts.one {v : V} {d : D} (h : Dt K mg F v d) : Dts K mg F [v] [d] := .cons h .nil
theorem Dts.ints : ∀ {vs : List V} {ns : List Int}, Dts K mg F vs (ns.map D.int) → vs = ns.map V.int
  | _, [], .nil => rfl
  | _, n :: ns, .cons h r => by
    cases h
    rw [List.map_cons, ← Dts.ints r]
theorem Dts.ofInts : ∀ (ns : List Int), Dts K mg F (ns.map V.int) (ns.map D.int)
  | [] => .nil
  | n :: ns => .cons (.int n) (Dts.ofInts ns)
theorem Dts.bls : ∀ {vs : List V} {ns : List Bool}, Dts K mg F vs (ns.map D.bl) → vs = ns.map V.bl
  | _, [], .nil => rfl
  | _, n :: ns, .cons h r => by
    cases h
    rw [List.map_cons, ← Dts.bls r]
theorem Dts.strs : ∀ {vs : List V} {ns : List (List Nat)}, Dts K mg F vs (ns.map D.str) → vs = (ns.map S).map V.str
  | _, [], .nil => rfl
  | _, n :: ns, .cons h r => by
    cases h
    rw [List.map_cons, List.map_cons, ← Dts.strs r]
theorem Dks.append : ∀ {vs ws : List (Key × V)} {ds es : List (Key × D)}, Dks K mg F vs ds → Dks K mg F ws es → Dks K mg F (vs ++ ws) (ds ++ es)
  | _, _, _, _, .nil, s => s
  | _, _, _, _, .cons r t, s => .cons r (Dks.append t s)
theorem Dks.keys : ∀ {vs : List (Key × V)} {ds : List (Key × D)}, Dks K mg F vs ds → vs.map (·.1) = ds.map (·.1)
  | _, _, .nil => rfl
  | _, _, .cons (k := k) _ r => by rw [List.map_cons, List.map_cons, Dks.keys r]
end

mutual
/-- the value v is the key k: whole numbers, tuples of the store that never change -/
def nkAt (H : Hp) : NestedKey → V → Prop
  | .num i, v => v = .int i
  | .tup ks, v => ∃ a ob vs, v = .ref a ∧ H a = some (.frz ob (.tup vs)) ∧ nksAt H ks vs
  | .none, _ => False
  | .text _, _ => False
def nksAt (H : Hp) : List NestedKey → List V → Prop
  | [], vs => vs = []
  | k :: ks, vs => ∃ v r, vs = v :: r ∧ nkAt H k v ∧ nksAt H ks r
end
mutual
theorem nkAt_mono {H H' : Hp} (h : ∀ a o, H a = some o → H' a = some o) : ∀ (k : NestedKey) (v : V), nkAt H k v → nkAt H' k v
  | .num i, v, x => x
  | .tup ks, v, x => by
    rw [nkAt] at x ⊢
    obtain ⟨a, ob, vs, e, y, z⟩ := x
    exact ⟨a, ob, vs, e, h _ _ y, nksAt_mono h ks vs z⟩
  | .none, _, x => x
  | .text _, _, x => x
theorem nksAt_mono {H H' : Hp} (h : ∀ a o, H a = some o → H' a = some o) : ∀ (ks : List NestedKey) (vs : List V), nksAt H ks vs → nksAt H' ks vs
  | [], vs, x => x
  | k :: ks, vs, x => by
    rw [nksAt] at x ⊢
    obtain ⟨v, r, e, y, z⟩ := x
    exact ⟨v, r, e, nkAt_mono h k v y, nksAt_mono h ks r z⟩
end
/-- the dict at a, by its one object -/
def dnnO (a : Addr) (vs : List (NestedKey × Addr × V)) : HO := .ext fun h => ∃ (o : Obj) (es : Array DictEntry) (ep : Nat) (xs : List (NestedKey × Addr × Value)), h.get? a = some o ∧ o.ExactDict ∧ o.data = .dict es ep ∧
  Paired (fun p q => p.1 = q.1 ∧ p.2.1 = q.2.1 ∧ RelV p.2.2 q.2.2) vs xs ∧ (∀ w : World, es.toList = xs.map fun x => ⟨x.1.hash w, .ref x.2.1, x.2.2⟩) ∧ (xs.map (·.1)).Nodup
section
variable (K : PySem.W.Frag) (mg : Str → Option Value)
def MOk (F H : Hp) (a : Addr) : MO → Prop
  | .lst xs => ∃ vs, H a = some (.lst vs) ∧ Dts K mg F vs xs
  | .ins c fs => ∃ C dx vfs, mg c = some (.ref C) ∧ H a = some (.ins C dx vfs) ∧ vfs.map (·.1) = fs.map (·.1) ∧ Dts K mg F (vfs.map (·.2)) (fs.map (·.2))
  | .dct kvs => ∃ vs, H a = some (.dK vs) ∧ Dks K mg F vs kvs
  | .dtt kvs => ∃ vs, H a = some (.dT vs) ∧ vs.map (·.1) = kvs.map (·.1) ∧ Dts K mg F (vs.map (·.2)) (kvs.map (·.2))
  | .dnn kvs => ∃ vs : List (NestedKey × Addr × V), H a = some (dnnO a vs) ∧ vs.map (·.1) = kvs.map (·.1) ∧ Dts K mg F (vs.map (·.2.2)) (kvs.map (·.2)) ∧ ∀ x ∈ vs, x.1.depth ≤ 8 ∧ nkAt F x.1 (.ref x.2.1)
  | .xd fs => ∃ vfs, H a = some (.xd vfs) ∧ vfs.map (·.1) = fs.map (·.1) ∧ Dts K mg F (vfs.map (·.2)) (fs.map (·.2))
  | .exz c fs => ∃ C od oe ws, mg c = some (.ref C) ∧ H a = some (.frz oe (.own 0)) ∧ L2N.Zn (.ref C) od oe ∧ oe.data = .fields ws ∧ ((od = none ∧ fs = []) ∨ ∃ dx vfs, od = some dx ∧ F dx = some (.xd vfs) ∧ vfs.map (·.1) = fs.map (·.1) ∧ Dts K mg F (vfs.map (·.2)) (fs.map (·.2)))
/-- F: what never changes any more; μ: what may change -/
structure Ok (F : Hp) (μ : Sto) (H : Hp) : Prop where
  sub : ∀ a o, F a = some o → H a = some o
  dis : ∀ a m, μ a = some m → F a = none
  sto : ∀ a m, μ a = some m → MOk K mg F H a m
/-- behind a step: what never changes stands, what nobody else knows stands -/
structure Ext (F : Hp) (μ : Sto) (H : Hp) (F' : Hp) (μ' : Sto) (H' : Hp) : Prop where
  mono : ∀ a o, F a = some o → F' a = some o
  keep : ∀ a o, H a = some o → μ a = none → H' a = some o ∧ F' a = F a ∧ μ' a = none
  live : ∀ a, H' a = none → H a = none
def SOk (F : Hp) (μ : Sto) (H : Hp) (v : V) : DS → Prop
  | .val d => Dt K mg F v d
  | .own xs => ∃ a vs, v = .ref a ∧ F a = none ∧ μ a = none ∧ H a = some (.lst vs) ∧ Dts K mg F vs xs
structure Rel (F : Hp) (ρ : DEnv) (μ : Sto) (σ : L2.St) (H : Hp) : Prop where
  ok : Ok K mg F μ H
  len : ρ.length = σ.length
  slot : ∀ (i : Nat) (s : DS), ρ[i]? = some (some s) → ∃ v, σ[i]? = some (some v) ∧ SOk K mg F μ H v s
  apart : ∀ (i j : Nat) (xs ys : List D), ρ[i]? = some (some (DS.own xs)) → ρ[j]? = some (some (DS.own ys)) → σ[i]? = σ[j]? → i = j
end

section
variable {K : PySem.W.Frag} {mg : Str → Option Value} {F F' F'' H H' H'' : Hp} {μ μ' μ'' : Sto} {ρ : DEnv} {σ : L2.St}
theorem Ext.refl : Ext F μ H F μ H := ⟨fun _ _ e => e, fun _ _ e n => ⟨e, rfl, n⟩, fun _ e => e⟩
theorem Ext.trans (a : Ext F μ H F' μ' H') (b : Ext F' μ' H' F'' μ'' H'') : Ext F μ H F'' μ'' H'' :=
  ⟨fun x o e => b.mono x o (a.mono x o e), fun x o e n => by
    obtain ⟨h1, h2, h3⟩ := a.keep x o e n
    obtain ⟨g1, g2, g3⟩ := b.keep x o h1 h3
    exact ⟨g1, g2.trans h2, g3⟩, fun x e => a.live x (b.live x e)⟩
theorem upd_live {H : Hp} {p : Addr} {u : HO} : ∀ a, upd H p u a = none → H a = none := fun a e => by
  by_cases h : a = p
  · subst h; rw [upd_same] at e; cases e
  · rw [upd_ne h] at e; exact e
theorem SOk.ext {v : V} {s : DS} (e : Ext F μ H F' μ' H') (h : SOk K mg F μ H v s) : SOk K mg F' μ' H' v s := by
  cases s with
  | val d => exact Dt.mono e.mono h
  | own xs =>
    obtain ⟨a, vs, rfl, f, m, hh, d⟩ := h
    obtain ⟨h1, h2, h3⟩ := e.keep a _ hh m
    exact ⟨a, vs, rfl, h2.trans f, h3, h1, d.mono e.mono⟩
theorem Rel.ext (r : Rel K mg F ρ μ σ H) (e : Ext F μ H F' μ' H') (o : Ok K mg F' μ' H') : Rel K mg F' ρ μ' σ H' :=
  ⟨o, r.len, fun i s h => by
    obtain ⟨v, h1, h2⟩ := r.slot i s h
    exact ⟨v, h1, h2.ext e⟩, r.apart⟩
theorem Ok.fresh (o : Ok K mg F μ H) {p : Addr} (h : H p = none) : F p = none ∧ μ p = none := by
  constructor
  · cases e : F p with
    | none => rfl
    | some x =>
      have q := o.sub p x e
      rw [h] at q
      cases q
  · cases e : μ p with
    | none => rfl
    | some m =>
      have q := o.sto p m e
      cases m with
      | lst xs => obtain ⟨vs, h1, _⟩ := q; rw [h] at h1; cases h1
      | ins c fs => obtain ⟨_, _, _, _, h1, _⟩ := q; rw [h] at h1; cases h1
      | dct kvs => obtain ⟨vs, h1, _⟩ := q; rw [h] at h1; cases h1
      | dtt kvs => obtain ⟨vs, h1, _⟩ := q; rw [h] at h1; cases h1
      | dnn kvs => obtain ⟨vs, h1, _⟩ := q; rw [h] at h1; cases h1
      | xd fs => obtain ⟨vs, h1, _⟩ := q; rw [h] at h1; cases h1
      | exz c fs => obtain ⟨_, _, _, _, _, h1, _⟩ := q; rw [h] at h1; cases h1
theorem MOk.up {a : Addr} {m : MO} (h : MOk K mg F H a m) (hF : ∀ a o, F a = some o → F' a = some o) (hH : H' a = H a) : MOk K mg F' H' a m := by
  cases m with
  | lst xs => obtain ⟨vs, h1, h2⟩ := h; exact ⟨vs, hH.trans h1, h2.mono hF⟩
  | ins c fs => obtain ⟨C, dx, vfs, h0, h1, h2, h3⟩ := h; exact ⟨C, dx, vfs, h0, hH.trans h1, h2, h3.mono hF⟩
  | dct kvs => obtain ⟨vs, h1, h2⟩ := h; exact ⟨vs, hH.trans h1, h2.mono hF⟩
  | dtt kvs => obtain ⟨vs, h1, h2, h3⟩ := h; exact ⟨vs, hH.trans h1, h2, h3.mono hF⟩
  | dnn kvs => obtain ⟨vs, h1, h2, h3, h4⟩ := h; exact ⟨vs, hH.trans h1, h2, h3.mono hF, fun x hx => ⟨(h4 x hx).1, nkAt_mono hF _ _ (h4 x hx).2⟩⟩
  | xd fs => obtain ⟨vs, h1, h2, h3⟩ := h; exact ⟨vs, hH.trans h1, h2, h3.mono hF⟩
  | exz c fs =>
    obtain ⟨C, od, oe, ws, h1, h2, h3, h4, h5⟩ := h
    refine ⟨C, od, oe, ws, h1, hH.trans h2, h3, h4, ?_⟩
    rcases h5 with h5 | ⟨dx, vfs, k1, k2, k3, k4⟩
    · exact .inl h5
    · exact .inr ⟨dx, vfs, k1, hF _ _ k2, k3, k4.mono hF⟩
/-- a new object that never changes -/
theorem Ok.lay (o : Ok K mg F μ H) {p : Addr} (h : H p = none) (u : HO) : Ok K mg (upd F p u) μ (upd H p u) ∧ Ext F μ H (upd F p u) μ (upd H p u) := by
  obtain ⟨hf, hm⟩ := o.fresh h
  have mono : ∀ a x, F a = some x → upd F p u a = some x := fun a x e => by rw [upd_ne (ne_of_none e hf)]; exact e
  refine ⟨⟨fun a x e => ?_, fun a m e => ?_, fun a m e => ?_⟩, ⟨mono, fun a x e n => ?_, upd_live⟩⟩
  · by_cases ha : a = p
    · subst ha; rw [upd_same] at e ⊢; exact e
    · rw [upd_ne ha] at e ⊢; exact o.sub a x e
  · by_cases ha : a = p
    · subst ha; rw [hm] at e; cases e
    · rw [upd_ne ha]; exact o.dis a m e
  · have ha : a ≠ p := fun q => by subst q; rw [hm] at e; cases e
    exact (o.sto a m e).up mono (upd_ne ha)
  · have ha := ne_of_none e h
    rw [upd_ne ha, upd_ne ha]
    exact ⟨e, rfl, n⟩
/-- a new object that may change -/
theorem Ok.layM (o : Ok K mg F μ H) {p : Addr} (h : H p = none) (u : HO) (m : MO) (hm : MOk K mg F (upd H p u) p m) : Ok K mg F (sset μ p m) (upd H p u) ∧ Ext F μ H F (sset μ p m) (upd H p u) := by
  obtain ⟨hf, hn⟩ := o.fresh h
  refine ⟨⟨fun a x e => ?_, fun a m' e => ?_, fun a m' e => ?_⟩, ⟨fun _ _ e => e, fun a x e n => ?_, upd_live⟩⟩
  · rw [upd_ne (ne_of_none e hf)]; exact o.sub a x e
  · by_cases ha : a = p
    · subst ha; exact hf
    · rw [sset_ne ha] at e; exact o.dis a m' e
  · by_cases ha : a = p
    · subst ha; rw [sset_same] at e; cases e; exact hm
    · rw [sset_ne ha] at e; exact (o.sto a m' e).up (fun _ _ e => e) (upd_ne ha)
  · have ha := ne_of_none e h
    rw [upd_ne ha, sset_ne ha]
    exact ⟨e, rfl, n⟩
/-- an object that changes is changed -/
theorem Ok.write (o : Ok K mg F μ H) {p : Addr} {m0 : MO} (h : μ p = some m0) (u : HO) (m : MO) (hm : MOk K mg F (upd H p u) p m) : Ok K mg F (sset μ p m) (upd H p u) ∧ Ext F μ H F (sset μ p m) (upd H p u) := by
  have hf := o.dis p m0 h
  refine ⟨⟨fun a x e => ?_, fun a m' e => ?_, fun a m' e => ?_⟩, ⟨fun _ _ e => e, fun a x e n => ?_, upd_live⟩⟩
  · rw [upd_ne (ne_of_none e hf)]; exact o.sub a x e
  · by_cases ha : a = p
    · subst ha; exact hf
    · rw [sset_ne ha] at e; exact o.dis a m' e
  · by_cases ha : a = p
    · subst ha; rw [sset_same] at e; cases e; exact hm
    · rw [sset_ne ha] at e; exact (o.sto a m' e).up (fun _ _ e => e) (upd_ne ha)
  · have ha : a ≠ p := fun q => by subst q; rw [n] at h; cases h
    rw [upd_ne ha, sset_ne ha]
    exact ⟨e, rfl, n⟩
/-- a new object that nobody knows: the heap alone grows -/
theorem Ok.layN (o : Ok K mg F μ H) {p : Addr} (h : H p = none) (u : HO) : Ok K mg F μ (upd H p u) ∧ Ext F μ H F μ (upd H p u) := by
  obtain ⟨hf, hn⟩ := o.fresh h
  refine ⟨⟨fun a x e => ?_, o.dis, fun a m' e => ?_⟩, ⟨fun _ _ e => e, fun a x e n => ?_, upd_live⟩⟩
  · rw [upd_ne (ne_of_none e hf)]; exact o.sub a x e
  · have ha : a ≠ p := fun q => by subst q; rw [hn] at e; cases e
    exact (o.sto a m' e).up (fun _ _ e => e) (upd_ne ha)
  · rw [upd_ne (ne_of_none e h)]
    exact ⟨e, rfl, n⟩
/-- an object that nobody else knows is changed -/
theorem Ok.writeN (o : Ok K mg F μ H) {p : Addr} (hf : F p = none) (hn : μ p = none) (u : HO) : Ok K mg F μ (upd H p u) := by
  refine ⟨fun a x e => ?_, o.dis, fun a m' e => ?_⟩
  · rw [upd_ne (ne_of_none e hf)]; exact o.sub a x e
  · have ha : a ≠ p := fun q => by subst q; rw [hn] at e; cases e
    exact (o.sto a m' e).up (fun _ _ e => e) (upd_ne ha)
/-- .. and from then on it never changes -/
theorem Ok.freeze (o : Ok K mg F μ H) {p : Addr} {u : HO} (hf : F p = none) (hn : μ p = none) (hh : H p = some u) : Ok K mg (upd F p u) μ H := by
  have mono : ∀ a x, F a = some x → upd F p u a = some x := fun a x e => by rw [upd_ne (ne_of_none e hf)]; exact e
  refine ⟨fun a x e => ?_, fun a m e => ?_, fun a m e => ?_⟩
  · by_cases ha : a = p
    · subst ha; rw [upd_same] at e; rw [hh]; exact e
    · rw [upd_ne ha] at e; exact o.sub a x e
  · have ha : a ≠ p := fun q => by subst q; rw [hn] at e; cases e
    rw [upd_ne ha]; exact o.dis a m e
  · exact (o.sto a m e).up mono rfl
end

abbrev DK := D → Sto → Prop
/-- an expression's reading over data -/
abbrev TED := DEnv → Sto → DK → Prop
abbrev TTD := DEnv → Sto → (Bool → Sto → Prop) → Prop
abbrev TAD := DEnv → Sto → (List D → Sto → Prop) → Prop
structure DEnds where
  nx : DEnv → Sto → Prop
  rt : DK
  bk : DEnv → Sto → Prop := fun _ _ => False
  ct : DEnv → Sto → Prop := fun _ _ => False
abbrev TSD := DEnds → DEnv → Sto → Prop
section
variable (K : PySem.W.Frag) (mg : Str → Option Value)
def liftE (d : TED) : TE := fun σ H Q => ∃ F ρ μ Qd, Rel K mg F ρ μ σ H ∧ d ρ μ Qd ∧ ∀ v F' μ' H' dv, Ext F μ H F' μ' H' → Ok K mg F' μ' H' → Dt K mg F' v dv → Qd dv μ' → Q v H'
/-- a value that is only looked at: as a value, or a list of the frame's own -/
def Wk (F : Hp) (μ : Sto) (H : Hp) (v : V) (d : D) : Prop := Dt K mg F v d ∨ ∃ a vs xs, v = .ref a ∧ d = .lst xs ∧ F a = none ∧ μ a = none ∧ H a = some (.lst vs) ∧ Dts K mg F vs xs
def liftW (d : TED) : TE := fun σ H Q => ∃ F ρ μ Qd, Rel K mg F ρ μ σ H ∧ d ρ μ Qd ∧ ∀ v F' μ' H' dv, Ext F μ H F' μ' H' → Ok K mg F' μ' H' → Wk K mg F' μ' H' v dv → Qd dv μ' → Q v H'
/-- a new list that nobody knows -/
abbrev TFD := DEnv → Sto → (List D → Sto → Prop) → Prop
def liftF (d : TFD) : TE := fun σ H Q => ∃ F ρ μ Qd, Rel K mg F ρ μ σ H ∧ d ρ μ Qd ∧ ∀ p vs F' μ' H' ds, Ext F μ H F' μ' H' → Ok K mg F' μ' H' → H p = none → F' p = none → μ' p = none → H' p = some (.lst vs) → Dts K mg F' vs ds → Qd ds μ' → Q (.ref p) H'
def liftT (d : TTD) : TT := fun σ H Q => ∃ F ρ μ Qd, Rel K mg F ρ μ σ H ∧ d ρ μ Qd ∧ ∀ b F' μ' H', Ext F μ H F' μ' H' → Ok K mg F' μ' H' → Qd b μ' → Q b H'
def liftA (d : TAD) : TA := fun σ H Q => ∃ F ρ μ Qd, Rel K mg F ρ μ σ H ∧ d ρ μ Qd ∧ ∀ vs F' μ' H' ds, Ext F μ H F' μ' H' → Ok K mg F' μ' H' → Dts K mg F' vs ds → Qd ds μ' → Q vs H'
/-- .. whose values are only looked at -/
inductive Wks (F : Hp) (μ : Sto) (H : Hp) : List V → List D → Prop
  | nil : Wks F μ H [] []
  | cons {v : V} {vs : List V} {d : D} {ds : List D} : Wk K mg F μ H v d → Wks F μ H vs ds → Wks F μ H (v :: vs) (d :: ds)
def liftAW (d : TAD) : TA := fun σ H Q => ∃ F ρ μ Qd, Rel K mg F ρ μ σ H ∧ d ρ μ Qd ∧ ∀ vs F' μ' H' ds, Ext F μ H F' μ' H' → Ok K mg F' μ' H' → Wks K mg F' μ' H' vs ds → Qd ds μ' → Q vs H'
def FLe (F F' : Hp) : Prop := ∀ a o, F a = some o → F' a = some o
/-- the state at the def's entry -/
structure Bs where
  F : Hp
  μ : Sto
  H : Hp
/-- .. and a state within the def -/
structure RelB (B : Bs) (F : Hp) (ρ : DEnv) (μ : Sto) (σ : L2.St) (H : Hp) : Prop where
  rel : Rel K mg F ρ μ σ H
  ext : Ext B.F B.μ B.H F μ H
  new : ∀ (i : Nat) (xs : List D) (a : Addr), ρ[i]? = some (some (DS.own xs)) → σ[i]? = some (some (.ref a)) → B.H a = none
def liftS (B : Bs) (d : TSD) : TS := fun D σ H => ∃ F ρ μ Dd, RelB K mg B F ρ μ σ H ∧ d Dd ρ μ ∧
  (∀ F' ρ' μ' σ' H', FLe F F' → RelB K mg B F' ρ' μ' σ' H' → Dd.nx ρ' μ' → D.nx σ' H') ∧
  (∀ F' ρ' μ' σ' H', FLe F F' → RelB K mg B F' ρ' μ' σ' H' → Dd.bk ρ' μ' → D.bk σ' H') ∧
  (∀ F' ρ' μ' σ' H', FLe F F' → RelB K mg B F' ρ' μ' σ' H' → Dd.ct ρ' μ' → D.ct σ' H') ∧
  (∀ v F' μ' H' dv, Ext B.F B.μ B.H F' μ' H' → Ok K mg F' μ' H' → Dt K mg F' v dv → Dd.rt dv μ' → D.rt v H')
end
theorem FLe.rfl' {F : Hp} : FLe F F := fun _ _ e => e
theorem FLe.trans {F F' F'' : Hp} (h : FLe F F') (g : FLe F' F'') : FLe F F'' := fun a o e => g a o (h a o e)
theorem _root_.L2.PE.weaken {X : Cx} {e : Expr} {t t' : TE} (h : PE X e t) (w : ∀ σ H Q, t' σ H Q → t σ H Q) : PE X e t' := ⟨fun pins s σ H Q I q => h.run pins s σ H Q I (w σ H Q q)⟩
theorem _root_.L2.PT.weaken {X : Cx} {e : Expr} {t t' : TT} (h : PT X e t) (w : ∀ σ H Q, t' σ H Q → t σ H Q) : PT X e t' := ⟨fun pins s σ H Q I q => h.run pins s σ H Q I (w σ H Q q)⟩
theorem _root_.L2.PW.weaken {X : Cx} {e : Expr} {t t' : TT} (h : PW X e t) (w : ∀ σ H Q, t' σ H Q → t σ H Q) : PW X e t' := ⟨fun wh pins s σ H Q I q => h.run wh pins s σ H Q I (w σ H Q q)⟩
theorem _root_.L2.PA.weaken {X : Cx} {e : List Expr} {t t' : TA} (h : PA X e t) (w : ∀ σ H Q, t' σ H Q → t σ H Q) : PA X e t' := ⟨fun pos pins s σ H Q I q => h.run pos pins s σ H Q I (w σ H Q q)⟩
theorem _root_.L2.PS.weaken {X : Cx} {e : Stmt} {t t' : TS} (h : PS X e t) (w : ∀ D σ H, t' D σ H → t D σ H) : PS X e t' := ⟨fun pins s σ H D I q => h.run pins s σ H D I (w D σ H q)⟩
theorem _root_.L2.PSs.weaken {X : Cx} {e : List Stmt} {t t' : TS} (h : PSs X e t) (w : ∀ D σ H, t' D σ H → t D σ H) : PSs X e t' := ⟨fun pins s σ H D I q => h.run pins s σ H D I (w D σ H q)⟩

abbrev DE (X : Cx) (e : Expr) (d : TED) : Prop := PE X e (liftE X.K X.mg d)
abbrev DW (X : Cx) (e : Expr) (d : TED) : Prop := PE X e (liftW X.K X.mg d)
abbrev DF (X : Cx) (e : Expr) (d : TFD) : Prop := PE X e (liftF X.K X.mg d)
abbrev DT (X : Cx) (e : Expr) (d : TTD) : Prop := PT X e (liftT X.K X.mg d)
abbrev DPW (X : Cx) (e : Expr) (d : TTD) : Prop := PW X e (liftT X.K X.mg d)
abbrev DA (X : Cx) (es : List Expr) (d : TAD) : Prop := PA X es (liftA X.K X.mg d)
abbrev DAW (X : Cx) (es : List Expr) (d : TAD) : Prop := PA X es (liftAW X.K X.mg d)
abbrev DSt (X : Cx) (B : Bs) (st : Stmt) (d : TSD) : Prop := PS X st (liftS X.K X.mg B d)
abbrev DSs (X : Cx) (B : Bs) (st : List Stmt) (d : TSD) : Prop := PSs X st (liftS X.K X.mg B d)
end DL

namespace DL
open PySem PySem.Spec PyProof.Rows L2

section
variable {K : PySem.W.Frag} {mg : Str → Option Value} {F F' H H' : Hp} {μ μ' : Sto} {x : V}
theorem Wk.ext {d : D} (e : Ext F μ H F' μ' H') (h : Wk K mg F μ H x d) : Wk K mg F' μ' H' x d := by
  rcases h with h | ⟨a, vs, xs, rfl, rfl, f, m, hh, r⟩
  · exact .inl (h.mono e.mono)
  · obtain ⟨h1, h2, h3⟩ := e.keep a _ hh m
    exact .inr ⟨a, vs, xs, rfl, rfl, h2.trans f, h3, h1, r.mono e.mono⟩
theorem Wk.int {i : Int} (h : Wk K mg F μ H x (.int i)) : x = .int i := by
  rcases h with h | ⟨_, _, _, _, e, _⟩
  · cases h; rfl
  · cases e
theorem Wk.bl {i : Bool} (h : Wk K mg F μ H x (.bl i)) : x = .bl i := by
  rcases h with h | ⟨_, _, _, _, e, _⟩
  · cases h; rfl
  · cases e
theorem Wk.non (h : Wk K mg F μ H x .non) : x = .non := by
  rcases h with h | ⟨_, _, _, _, e, _⟩
  · cases h; rfl
  · cases e
theorem Wk.str {s : List Nat} (h : Wk K mg F μ H x (.str s)) : x = .str (S s) := by
  rcases h with h | ⟨_, _, _, _, e, _⟩
  · cases h; rfl
  · cases e
theorem Wk.ref {a : Addr} (h : Wk K mg F μ H x (.ref a)) : x = .ref a := by
  rcases h with h | ⟨_, _, _, _, e, _⟩
  · cases h; rfl
  · cases e
theorem Wk.ty {n : String} (h : Wk K mg F μ H x (.ty n)) : x = .ty n := by
  rcases h with h | ⟨_, _, _, _, e, _⟩
  · cases h; rfl
  · cases e
theorem SqT.sub (o : Ok K mg F μ H) {a : Addr} {vs : List V} (h : SqT K F a vs) : SqT K H a vs := SqT.mono' o.sub h
theorem Wk.tup (o : Ok K mg F μ H) {ds : List D} (h : Wk K mg F μ H x (.tup ds)) : ∃ a vs, x = .ref a ∧ SqT K H a vs ∧ PlT F a vs ∧ Dts K mg F vs ds := by
  rcases h with h | ⟨_, _, _, _, e, _⟩
  · cases h with
    | tup q r => exact ⟨_, _, rfl, SqT.sub o q.sq, q, r⟩
  · cases e
theorem Wk.lst (o : Ok K mg F μ H) {ds : List D} (h : Wk K mg F μ H x (.lst ds)) : ∃ a vs, x = .ref a ∧ H a = some (.lst vs) ∧ Dts K mg F vs ds := by
  rcases h with h | ⟨a, vs, xs, rfl, e, f, m, hh, r⟩
  · cases h with
    | lst q r => exact ⟨_, _, rfl, o.sub _ _ q, r⟩
  · cases e
    exact ⟨a, vs, rfl, hh, r⟩
theorem Wk.scr (o : Ok K mg F μ H) {ns : List Int} (h : Wk K mg F μ H x (.scr ns)) : ∃ a, x = .ref a ∧ SqL K H a (ns.map V.int) := by
  rcases h with h | ⟨a, vs, xs, rfl, e, f, m, hh, r⟩
  · cases h with
    | scr q => exact ⟨_, rfl, SqL.mono' o.sub q⟩
  · cases e
theorem Wk.dct (o : Ok K mg F μ H) {ds : List (Key × D)} (h : Wk K mg F μ H x (.dct ds)) : ∃ a vs, x = .ref a ∧ H a = some (.dK vs) ∧ Dks K mg F vs ds := by
  rcases h with h | ⟨a, vs, xs, rfl, e, f, m, hh, r⟩
  · cases h with
    | dct q r => exact ⟨_, _, rfl, o.sub _ _ q, r⟩
  · cases e
/-- a new tuple -/
theorem newTup (o : Ok K mg F μ H) {vs : List V} {ds : List D} (r : Dts K mg F vs ds) {p : Addr} {ob : Obj} (hp : H p = none) (ho : ob.dict = none) :
    Ext F μ H (upd F p (.frz ob (.tup vs))) μ (upd H p (.frz ob (.tup vs))) ∧ Ok K mg (upd F p (.frz ob (.tup vs))) μ (upd H p (.frz ob (.tup vs))) ∧ Dt K mg (upd F p (.frz ob (.tup vs))) (.ref p) (.tup ds) := by
  obtain ⟨h1, h2⟩ := o.lay hp (.frz ob (.tup vs))
  exact ⟨h2, h1, .tup ⟨ob, ho, upd_same⟩ (r.mono h2.mono)⟩
/-- a new list that never changes -/
theorem newLst (o : Ok K mg F μ H) {vs : List V} {ds : List D} (r : Dts K mg F vs ds) {p : Addr} (hp : H p = none) : Ext F μ H (upd F p (.lst vs)) μ (upd H p (.lst vs)) ∧ Ok K mg (upd F p (.lst vs)) μ (upd H p (.lst vs)) ∧ Dt K mg (upd F p (.lst vs)) (.ref p) (.lst ds) := by
  obtain ⟨h1, h2⟩ := o.lay hp (.lst vs)
  exact ⟨h2, h1, .lst upd_same (r.mono h2.mono)⟩
end

mutual
def D.py : D → PyData
  | .non => .none | .bl b => .bool b | .int i => .int i | .str x => .str (S x)
  | .tup xs => .tuple (D.pys xs) | .lst xs => .list (D.pys xs) | .scr ns => .list (ns.map .int)
  | _ => .none
def D.pys : List D → List PyData
  | [] => []
  | x :: xs => x.py :: D.pys xs
end
mutual
/-- data without dicts, objects -/
def D.flat : D → Bool
  | .non => true | .bl _ => true | .int _ => true | .str _ => true
  | .tup xs => D.flats xs | .lst xs => D.flats xs
  | _ => false
def D.flats : List D → Bool
  | [] => true
  | x :: xs => x.flat && D.flats xs
end
section
variable {K : PySem.W.Frag} {mg : Str → Option Value} {F H : Hp} {μ : Sto}
mutual
theorem Dt.dp (hF : ∀ a o, F a = some o → H a = some o) : ∀ {v : V} {d : D}, Dt K mg F v d → d.flat = true → Dp K H v d.py
  | _, _, .non, _ => .non
  | _, _, .bl b, _ => .bl b
  | _, _, .int i, _ => .int i
  | _, _, .str x, _ => .str (S x)
  | _, _, .tup h r, q => .tup (SqT.mono' hF h.sq) (Dts.dp hF r q)
  | _, _, .lst h r, q => .lst (.inl (.inl (hF _ _ h))) (Dts.dp hF r q)
  | _, _, .dct _ _, q => nomatch q
  | _, _, .scr _, q => nomatch q
  | _, _, .ref _, q => nomatch q
  | _, _, .ty _, q => nomatch q
  | _, _, .gl _, q => nomatch q
  | _, _, .pr _ _ _, q => nomatch q
  | _, _, .obj _ _ _ _, q => nomatch q
  | _, _, .exn0 _ _ _ _, q => nomatch q
  | _, _, .exn1 _ _ _ _ _ _ _, q => nomatch q
theorem Dts.dp (hF : ∀ a o, F a = some o → H a = some o) : ∀ {vs : List V} {ds : List D}, Dts K mg F vs ds → D.flats ds = true → DpAll K H vs (D.pys ds)
  | _, _, .nil, _ => .nil
  | _, _, .cons h r, q => .cons (Dt.dp hF h (Bool.and_eq_true_iff.mp q).1) (Dts.dp hF r (Bool.and_eq_true_iff.mp q).2)
end
theorem Wk.dp (o : Ok K mg F μ H) {v : V} {d : D} (h : Wk K mg F μ H v d) (q : d.flat = true) : Dp K H v d.py := by
  rcases h with h | ⟨a, vs, xs, rfl, rfl, f, m, hh, r⟩
  · exact Dt.dp o.sub h q
  · exact .lst (.inl (.inl hh)) (Dts.dp o.sub r q)
end

abbrev RD2 := D → D → Sto → DK → Prop
def OpS (K : PySem.W.Frag) (mg : Str → Option Value) (r : R2) (rd : RD2) : Prop :=
  ∀ (F : Hp) (μ : Sto) (H : Hp) (x y : V) (dx dy : D) (Qd : DK) (Q : VK), Ok K mg F μ H → Wk K mg F μ H x dx → Wk K mg F μ H y dy → rd dx dy μ Qd →
    (∀ v F' μ' H' dv, Ext F μ H F' μ' H' → Ok K mg F' μ' H' → Dt K mg F' v dv → Qd dv μ' → Q v H') → r x y H Q
@[simp] def dOp (rd : RD2) (a b : TED) : TED := fun ρ μ Q => a ρ μ fun x μ1 => b ρ μ1 fun y μ2 => rd x y μ2 Q
section
variable {X : Cx} {a b c e : Expr} {da db dc : TED} {pos : Pos} {K : PySem.W.Frag} {mg : Str → Option Value}
theorem lift_op {r : R2} {rd : RD2} (hs : OpS K mg r rd) {σ : L2.St} {H : Hp} {Q : VK} (h : liftE K mg (dOp rd da db) σ H Q) : tOp r (liftW K mg da) (liftW K mg db) σ H Q := by
  obtain ⟨F, ρ, μ, Qd, R, hd, k⟩ := h
  refine ⟨F, ρ, μ, _, R, hd, fun v F1 μ1 H1 dv e1 o1 w1 q1 => ?_⟩
  refine ⟨F1, ρ, μ1, _, R.ext e1 o1, q1, fun u F2 μ2 H2 du e2 o2 w2 q2 => ?_⟩
  exact hs F2 μ2 H2 v u dv du _ _ o2 (w1.ext e2) w2 q2 fun z F3 μ3 H3 dz e3 o3 w3 q3 => k z F3 μ3 H3 dz (e1.trans (e2.trans e3)) o3 w3 q3
theorem lift_W {d : TED} {σ : L2.St} {H : Hp} {Q : VK} (h : liftW K mg d σ H Q) : liftE K mg d σ H Q := by
  obtain ⟨F, ρ, μ, Qd, R, hd, k⟩ := h
  exact ⟨F, ρ, μ, Qd, R, hd, fun v F' μ' H' dv e o w q => k v F' μ' H' dv e o (.inl w) q⟩
theorem dw {d : TED} (h : DE X e d) : DW X e d := h.weaken fun _ _ _ q => lift_W q
theorem de_op {op : Operator} {r : R2} {rd : RD2} (ho : OpR X (binaryOp op) r) (hs : OpS X.K X.mg r rd) (ha : DW X a da) (hb : DW X b db) : DE X (.BinOp a op b pos) (dOp rd da db) :=
  (pe_op ho ha hb).weaken fun _ _ _ q => lift_op hs q
theorem de_cmp {op : CmpOp} {r : R2} {rd : RD2} (ho : OpR X (compareOp op) r) (hs : OpS X.K X.mg r rd) (ha : DW X a da) (hb : DW X b db) (hm : behindInMarks op b = false) : DE X (.Compare a [op] [b] pos) (dOp rd da db) :=
  (pe_cmpR ho ha hb hm).weaken fun _ _ _ q => lift_op hs q
/-- a test that is a value -/
def blK : D → (Bool → Prop) → Prop
  | .bl b, K => K b
  | _, _ => False
@[simp] theorem blK_1 : blK  (.bl b0) K0 = (K0 b0) := rfl
theorem blK_iff {x : D} {K : Bool → Prop} (h : blK x K) : ∃ b, x = .bl b ∧ K b := by
  cases x <;> first | exact h.elim | exact ⟨_, rfl, h⟩
@[simp] def dB (d : TED) : TTD := fun ρ μ Q => d ρ μ fun x μ1 => blK x fun b => Q b μ1
theorem dt_cmp {op : CmpOp} {r : R2} {rd : RD2} (ho : OpR X (compareOp op) r) (hs : OpS X.K X.mg r rd) (ha : DW X a da) (hb : DW X b db) (hm : behindInMarks op b = false) : DT X (.Compare a [op] [b] pos) (dB (dOp rd da db)) :=
  (pt_cmpR ho ha hb hm).weaken fun σ H Q q => by
    obtain ⟨F, ρ, μ, Qd, R, hd, k⟩ := q
    refine lift_op hs ⟨F, ρ, μ, _, R, hd, fun v F' μ' H' dv e o w q => ?_⟩
    obtain ⟨b, rfl, q⟩ := blK_iff q
    cases w
    exact ⟨b, rfl, k b F' μ' H' e o q⟩
theorem dt_val (h : DE X e da) (he : ∀ whole, isTrue e X.env whole = (do let v ← whole; standAt e.pos; holding [v] (truthy v)) := by intro _; rfl) : DT X e (dB da) :=
  (pt_val h he).weaken fun σ H Q q => by
    obtain ⟨F, ρ, μ, Qd, R, hd, k⟩ := q
    refine ⟨F, ρ, μ, _, R, hd, fun v F' μ' H' dv e o w q => ?_⟩
    obtain ⟨b, rfl, q⟩ := blK_iff q
    cases w
    exact ⟨b, rfl, k b F' μ' H' e o q⟩

@[simp] def dVar (i : Nat) : TED := fun ρ μ Q => ∃ d, ρ[i]? = some (some (.val d)) ∧ Q d μ
/-- .. only looked at -/
@[simp] def dLook (i : Nat) : TED := fun ρ μ Q => match ρ[i]? with | some (some (.val d)) => Q d μ | some (some (.own xs)) => Q (.lst xs) μ | _ => False
@[simp] def dC (d : D) : TED := fun _ μ Q => Q d μ
theorem de_var {i : Nat} {x : Str} (h : PE X (.Name x pos) (tVar i)) : DE X (.Name x pos) (dVar i) := h.weaken fun σ H Q q => by
  obtain ⟨F, ρ, μ, Qd, R, ⟨d, hd, q⟩, k⟩ := q
  obtain ⟨v, h1, h2⟩ := R.slot i _ hd
  exact ⟨v, h1, k v F μ H d .refl R.ok h2 q⟩
theorem dw_var {i : Nat} {x : Str} (h : PE X (.Name x pos) (tVar i)) : DW X (.Name x pos) (dLook i) := h.weaken fun σ H Q q => by
  obtain ⟨F, ρ, μ, Qd, R, q, k⟩ := q
  cases e : ρ[i]? with
  | none => simp [dLook, e] at q
  | some o =>
    cases o with
    | none => simp [dLook, e] at q
    | some s =>
      obtain ⟨v, h1, h2⟩ := R.slot i _ e
      cases s with
      | val d => exact ⟨v, h1, k v F μ H d .refl R.ok (.inl h2) (by simpa [dLook, e] using q)⟩
      | own xs =>
        obtain ⟨a, vs, rfl, f, m, hh, r⟩ := h2
        exact ⟨_, h1, k _ F μ H (.lst xs) .refl R.ok (.inr ⟨a, vs, xs, rfl, rfl, f, m, hh, r⟩) (by simpa [dLook, e] using q)⟩
theorem de_c {v : V} {d : D} (h : PE X e (tC v)) (hd : ∀ F, Dt X.K X.mg F v d) : DE X e (dC d) := h.weaken fun σ H Q q => by
  obtain ⟨F, ρ, μ, Qd, R, q, k⟩ := q
  exact k v F μ H d .refl R.ok (hd F) q
theorem de_int {i j pos} : DE X (.Constant (.int i) j pos) (dC (.int i)) := de_c pe_int fun _ => .int i
theorem de_bl {b j pos} : DE X (.Constant (.bool b) j pos) (dC (.bl b)) := de_c pe_bl fun _ => .bl b
theorem de_str {x : Str} {j pos} (s : List Nat) (h : x = S s := by decide +kernel) : DE X (.Constant (.str x) j pos) (dC (.str s)) := de_c pe_str fun _ => by subst h; exact .str s
@[simp] def dNot (t : TTD) : TTD := fun ρ μ Q => t ρ μ fun b μ1 => Q (!b) μ1
@[simp] def dAnd (t u : TTD) : TTD := fun ρ μ Q => t ρ μ fun b μ1 => if b = true then u ρ μ1 Q else Q false μ1
@[simp] def dOr (t u : TTD) : TTD := fun ρ μ Q => t ρ μ fun b μ1 => if b = true then Q true μ1 else u ρ μ1 Q
@[simp] def dIf (t : TTD) (a b : TED) : TED := fun ρ μ Q => t ρ μ fun c μ1 => if c = true then a ρ μ1 Q else b ρ μ1 Q
variable {ta tb : TTD} {rest : List Expr}
theorem dt_not (h : DT X a ta) : DT X (.UnaryOp .Not a pos) (dNot ta) := (pt_not h).weaken fun σ H Q q => by
  obtain ⟨F, ρ, μ, Qd, R, hd, k⟩ := q
  exact ⟨F, ρ, μ, _, R, hd, fun b F' μ' H' e o q => k (!b) F' μ' H' e o q⟩
theorem dpw_or1 (ha : DT X a ta) : DPW X (.BoolOp .Or [a] pos) ta := pw_or1 ha
theorem dpw_or (ha : DT X a ta) (hb : DPW X (.BoolOp .Or (b :: rest) pos) tb) : DPW X (.BoolOp .Or (a :: b :: rest) pos) (dOr ta tb) := (pw_or ha hb).weaken fun σ H Q q => by
  obtain ⟨F, ρ, μ, Qd, R, hd, k⟩ := q
  refine ⟨F, ρ, μ, _, R, hd, fun b F1 μ1 H1 e1 o1 q1 => ?_⟩
  cases b with
  | false => exact ⟨F1, ρ, μ1, _, R.ext e1 o1, q1, fun c F2 μ2 H2 e2 o2 q2 => k c F2 μ2 H2 (e1.trans e2) o2 q2⟩
  | true => exact k true F1 μ1 H1 e1 o1 q1
theorem DPW.dt (h : DPW X e ta) : DT X e ta := PW.pt h
/-- .. as values, all but the last True or False -/
@[simp] def dAndV (a b : TED) : TED := fun ρ μ Q => a ρ μ fun x μ1 => blK x fun c => if c = true then b ρ μ1 Q else Q (.bl false) μ1
@[simp] def dOrV (a b : TED) : TED := fun ρ μ Q => a ρ μ fun x μ1 => blK x fun c => if c = true then Q (.bl true) μ1 else b ρ μ1 Q
@[simp] def dNotV (a : TED) : TED := fun ρ μ Q => a ρ μ fun x μ1 => blK x fun c => Q (.bl (!c)) μ1
theorem de_one {op} (h : DE X a da) : DE X (.BoolOp op [a] pos) da := pe_one h
theorem de_and (ha : DE X a da) (hb : DE X (.BoolOp .And (b :: rest) pos) db) : DE X (.BoolOp .And (a :: b :: rest) pos) (dAndV da db) := (pe_and ha hb).weaken fun σ H Q q => by
  obtain ⟨F, ρ, μ, Qd, R, hd, k⟩ := q
  refine ⟨F, ρ, μ, _, R, hd, fun v F1 μ1 H1 dv e1 o1 w1 q1 => ?_⟩
  obtain ⟨c, rfl, q1⟩ := blK_iff q1
  cases w1
  refine ⟨c, rfl, ?_⟩
  cases c with
  | true => exact ⟨F1, ρ, μ1, _, R.ext e1 o1, q1, fun c F2 μ2 H2 d2 e2 o2 w2 q2 => k c F2 μ2 H2 d2 (e1.trans e2) o2 w2 q2⟩
  | false => exact k _ F1 μ1 H1 _ e1 o1 (.bl false) q1
theorem de_not (ha : DE X a da) : DE X (.UnaryOp .Not a pos) (dNotV da) := (pe_not ha).weaken fun σ H Q q => by
  obtain ⟨F, ρ, μ, Qd, R, hd, k⟩ := q
  refine ⟨F, ρ, μ, _, R, hd, fun v F1 μ1 H1 dv e1 o1 w1 q1 => ?_⟩
  obtain ⟨c, rfl, q1⟩ := blK_iff q1
  cases w1
  exact ⟨c, rfl, k _ F1 μ1 H1 _ e1 o1 (.bl _) q1⟩
theorem de_if {t : Expr} (ht : DT X t ta) (ha : DE X a da) (hb : DE X b db) : DE X (.IfExp t a b pos) (dIf ta da db) := (pe_ifExp ht ha hb).weaken fun σ H Q q => by
  obtain ⟨F, ρ, μ, Qd, R, hd, k⟩ := q
  refine ⟨F, ρ, μ, _, R, hd, fun c F1 μ1 H1 e1 o1 q1 => ?_⟩
  cases c with
  | true => exact ⟨F1, ρ, μ1, _, R.ext e1 o1, q1, fun c F2 μ2 H2 d2 e2 o2 w2 q2 => k c F2 μ2 H2 d2 (e1.trans e2) o2 w2 q2⟩
  | false => exact ⟨F1, ρ, μ1, _, R.ext e1 o1, q1, fun c F2 μ2 H2 d2 e2 o2 w2 q2 => k c F2 μ2 H2 d2 (e1.trans e2) o2 w2 q2⟩

@[simp] def dNeg (a : TED) : TED := fun ρ μ Q => a ρ μ fun x μ1 => ∃ i, x = .int i ∧ Q (.int (-i)) μ1
theorem de_neg (ha : DE X a da) : DE X (.UnaryOp .USub a pos) (dNeg da) := (pe_un un_neg ha).weaken fun σ H Q q => by
  obtain ⟨F, ρ, μ, Qd, R, hd, k⟩ := q
  refine ⟨F, ρ, μ, _, R, hd, fun v F1 μ1 H1 dv e1 o1 w1 q1 => ?_⟩
  obtain ⟨i, rfl, q1⟩ := q1
  cases w1
  exact ⟨i, rfl, k _ F1 μ1 H1 _ e1 o1 (.int _) q1⟩

@[simp] def dChain (r r' : RD2) (a b c : TED) : TED := fun ρ μ Q => a ρ μ fun x μ1 => b ρ μ1 fun y μ2 => r x y μ2 fun z μ3 => blK z fun k => (if k = true then c ρ μ3 fun w μ4 => r' y w μ4 Q else Q (.bl false) μ3)
theorem lift_chain {r r' : R2} {rd rd' : RD2} (hs : OpS K mg r rd) (hs' : OpS K mg r' rd') {σ : L2.St} {H : Hp} {Q : VK} (h : liftE K mg (dChain rd rd' da db dc) σ H Q) : tChain r r' (liftW K mg da) (liftW K mg db) (liftW K mg dc) σ H Q := by
  obtain ⟨F, ρ, μ, Qd, R, hd, k⟩ := h
  refine ⟨F, ρ, μ, _, R, hd, fun v F1 μ1 H1 dv e1 o1 w1 q1 => ?_⟩
  refine ⟨F1, ρ, μ1, _, R.ext e1 o1, q1, fun u F2 μ2 H2 du e2 o2 w2 q2 => ?_⟩
  refine hs F2 μ2 H2 v u dv du _ _ o2 (w1.ext e2) w2 q2 fun z F3 μ3 H3 dz e3 o3 w3 q3 => ?_
  obtain ⟨b, rfl, q3⟩ := blK_iff q3
  cases w3
  refine ⟨b, rfl, ?_⟩
  cases b with
  | false => exact k _ F3 μ3 H3 _ (e1.trans (e2.trans e3)) o3 (.bl false) q3
  | true =>
    refine ⟨F3, ρ, μ3, _, R.ext (e1.trans (e2.trans e3)) o3, q3, fun t F4 μ4 H4 dt e4 o4 w4 q4 => ?_⟩
    exact hs' F4 μ4 H4 u t du dt _ _ o4 ((w2.ext e3).ext e4) w4 q4 fun z F5 μ5 H5 dz e5 o5 w5 q5 => k z F5 μ5 H5 dz (e1.trans (e2.trans (e3.trans (e4.trans e5)))) o5 w5 q5
theorem de_chain {op op' : CmpOp} {r r' : R2} {rd rd' : RD2} (ho : OpR X (compareOp op) r) (hs : OpS X.K X.mg r rd) (ho' : OpR X (compareOp op') r') (hs' : OpS X.K X.mg r' rd') (ha : DW X a da) (hb : DW X b db) (hc : DW X c dc)
    (hm : lastMarks [op, op'] [b, c] = false := by with_unfolding_all rfl) : DE X (.Compare a [op, op'] [b, c] pos) (dChain rd rd' da db dc) :=
  (pe_chain ho ho' ha hb hc hm).weaken fun _ _ _ q => lift_chain hs hs' q
end
end DL

namespace DL
open PySem PySem.Spec PyProof.Rows L2

theorem S_len (l : List Nat) : (S l).length = l.length := by show l.toArray.size = l.length; simp
theorem S_app (l r : List Nat) : S l ++ S r = S (l ++ r) := by
  show (⟨l.toArray ++ r.toArray⟩ : Str) = ⟨(l ++ r).toArray⟩
  simp
theorem S_list (l : List Nat) : (S l).cps.toList = l := by simp
theorem S_inj {l r : List Nat} : S l = S r ↔ l = r := by
  constructor
  · intro h
    have := congrArg (fun z : Str => z.cps.toList) h
    simpa using this
  · intro h; rw [h]
theorem S_of (z : Str) : S z.cps.toList = z := by
  show (⟨z.cps.toList.toArray⟩ : Str) = z
  simp

/-- two whole numbers under a condition -/
def rdI (C : Int → Int → Prop) (g : Int → Int → D) : RD2
  | .int i, .int j, μ, Q => C i j ∧ Q (g i j) μ
  | _, _, _, _ => False
@[simp] theorem rdI_1 (C : Int → Int → Prop) (g : Int → Int → D) {i j : Int} {μ : Sto} {Q : DK} : rdI C g (.int i) (.int j) μ Q = (C i j ∧ Q (g i j) μ) := rfl
def mulOk (i j : Int) : Prop := (-18446744073709551616 < i ∧ i < 18446744073709551616) ∨ (-18446744073709551616 < j ∧ j < 18446744073709551616) ∨ i.natAbs.log2 + j.natAbs.log2 < 1000000
def powOk (i j : Int) : Prop := 0 ≤ j ∧ j ≤ 1000000 ∧ i.natAbs < 18446744073709551616
def divOk (j : Int) : Prop := 0 < j ∧ (j < 1073741824 ∨ j.natAbs.log2 < 9000)
@[simp] abbrev SZ : Nat := 16777216
def repl {α : Type} (n : Nat) (l : List α) : List α := (List.replicate n l).flatten
def rdAdd : RD2
  | .int i, .int j, μ, Q => Q (.int (i + j)) μ
  | .str s, .str t, μ, Q => s.length + t.length ≤ SZ ∧ Q (.str (s ++ t)) μ
  | .tup s, .tup t, μ, Q => s.length + t.length ≤ SZ ∧ Q (.tup (s ++ t)) μ
  | .lst s, .lst t, μ, Q => s.length + t.length ≤ SZ ∧ Q (.lst (s ++ t)) μ
  | .int i, .bl k, μ, Q => Q (.int (i + b2i k)) μ
  | .ref a, .lst t, μ, Q => ∃ s, μ a = some (.lst s) ∧ s.length + t.length ≤ SZ ∧ Q (.lst (s ++ t)) μ
  | _, _, _, _ => False
@[simp] theorem rdAdd_1 : rdAdd  (.int i0) (.int j0) μ0 Q0 = (Q0 (.int (i0 + j0)) μ0) := rfl
@[simp] theorem rdAdd_2 : rdAdd  (.str s0) (.str t0) μ0 Q0 = (s0.length + t0.length ≤ SZ ∧ Q0 (.str (s0 ++ t0)) μ0) := rfl
@[simp] theorem rdAdd_3 : rdAdd  (.tup s0) (.tup t0) μ0 Q0 = (s0.length + t0.length ≤ SZ ∧ Q0 (.tup (s0 ++ t0)) μ0) := rfl
@[simp] theorem rdAdd_4 : rdAdd  (.lst s0) (.lst t0) μ0 Q0 = (s0.length + t0.length ≤ SZ ∧ Q0 (.lst (s0 ++ t0)) μ0) := rfl
@[simp] theorem rdAdd_5 : rdAdd  (.int i0) (.bl k0) μ0 Q0 = (Q0 (.int (i0 + b2i k0)) μ0) := rfl
@[simp] theorem rdAdd_6 : rdAdd  (.ref a0) (.lst t0) μ0 Q0 = (∃ s, μ0 a0 = some (.lst s) ∧ s.length + t0.length ≤ SZ ∧ Q0 (.lst (s ++ t0)) μ0) := rfl
def rdSub : RD2 := rdI (fun _ _ => True) fun i j => .int (i - j)
def rdMul : RD2
  | .int i, .int j, μ, Q => mulOk i j ∧ Q (.int (i * j)) μ
  | .str s, .int n, μ, Q => n ≤ 1000000 ∧ -1000000 ≤ n ∧ s.length * n.toNat ≤ SZ ∧ Q (.str (repl n.toNat s)) μ
  | .tup s, .int n, μ, Q => -1000 ≤ n ∧ n ≤ 1000 ∧ s.length ≤ 1000 ∧ Q (.tup (repl n.toNat s)) μ
  | .lst s, .int n, μ, Q => n ≤ 1000000 ∧ -1000000 ≤ n ∧ s.length * n.toNat ≤ SZ ∧ Q (.lst (repl n.toNat s)) μ
  | _, _, _, _ => False
@[simp] theorem rdMul_1 : rdMul  (.int i0) (.int j0) μ0 Q0 = (mulOk i0 j0 ∧ Q0 (.int (i0 * j0)) μ0) := rfl
@[simp] theorem rdMul_2 : rdMul  (.str s0) (.int n0) μ0 Q0 = (n0 ≤ 1000000 ∧ -1000000 ≤ n0 ∧ s0.length * n0.toNat ≤ SZ ∧ Q0 (.str (repl n0.toNat s0)) μ0) := rfl
@[simp] theorem rdMul_3 : rdMul  (.tup s0) (.int n0) μ0 Q0 = (-1000 ≤ n0 ∧ n0 ≤ 1000 ∧ s0.length ≤ 1000 ∧ Q0 (.tup (repl n0.toNat s0)) μ0) := rfl
@[simp] theorem rdMul_4 : rdMul  (.lst s0) (.int n0) μ0 Q0 = (n0 ≤ 1000000 ∧ -1000000 ≤ n0 ∧ s0.length * n0.toNat ≤ SZ ∧ Q0 (.lst (repl n0.toNat s0)) μ0) := rfl
def rdMod : RD2 := rdI (fun _ j => 0 < j) fun i j => .int (i % j)
def rdDiv : RD2 := rdI (fun _ j => divOk j) fun i j => .int (i / j)
def rdPow : RD2 := rdI powOk fun i j => .int (i ^ j.toNat)
def rdShl : RD2 := rdI powOk fun i j => .int (i * 2 ^ j.toNat)
def rdShr : RD2 := rdI (fun _ j => 0 ≤ j) fun i j => .int (i / 2 ^ j.toNat)
def rdAnd : RD2 := rdI (fun _ _ => True) fun i j => .int (Builtin.bitAnd i j)
def rdLt : RD2
  | .int i, .int j, μ, Q => Q (.bl (decide (i < j))) μ
  | .str s, .str t, μ, Q => Q (.bl (decide (s < t))) μ
  | _, _, _, _ => False
@[simp] theorem rdLt_1 : rdLt  (.int i0) (.int j0) μ0 Q0 = (Q0 (.bl (decide (i0 < j0))) μ0) := rfl
@[simp] theorem rdLt_2 : rdLt  (.str s0) (.str t0) μ0 Q0 = (Q0 (.bl (decide (s0 < t0))) μ0) := rfl
def rdLe : RD2 := rdI (fun _ _ => True) fun i j => .bl (decide (i ≤ j))
def rdGt : RD2 := rdI (fun _ _ => True) fun i j => .bl (decide (j < i))
def rdGe : RD2 := rdI (fun _ _ => True) fun i j => .bl (decide (j ≤ i))
@[simp] theorem rdSub_i {i j : Int} {μ : Sto} {Q : DK} : rdSub (.int i) (.int j) μ Q = (Q (.int (i - j)) μ) := by simp [rdSub]
@[simp] theorem rdMod_i {i j : Int} {μ : Sto} {Q : DK} : rdMod (.int i) (.int j) μ Q = (0 < j ∧ Q (.int (i % j)) μ) := by simp [rdMod]
@[simp] theorem rdDiv_i {i j : Int} {μ : Sto} {Q : DK} : rdDiv (.int i) (.int j) μ Q = (divOk j ∧ Q (.int (i / j)) μ) := by simp [rdDiv]
@[simp] theorem rdPow_i {i j : Int} {μ : Sto} {Q : DK} : rdPow (.int i) (.int j) μ Q = (powOk i j ∧ Q (.int (i ^ j.toNat)) μ) := by simp [rdPow]
@[simp] theorem rdShl_i {i j : Int} {μ : Sto} {Q : DK} : rdShl (.int i) (.int j) μ Q = (powOk i j ∧ Q (.int (i * 2 ^ j.toNat)) μ) := by simp [rdShl]
@[simp] theorem rdShr_i {i j : Int} {μ : Sto} {Q : DK} : rdShr (.int i) (.int j) μ Q = (0 ≤ j ∧ Q (.int (i / 2 ^ j.toNat)) μ) := by simp [rdShr]
@[simp] theorem rdAnd_i {i j : Int} {μ : Sto} {Q : DK} : rdAnd (.int i) (.int j) μ Q = (Q (.int (Builtin.bitAnd i j)) μ) := by simp [rdAnd]
@[simp] theorem rdLe_i {i j : Int} {μ : Sto} {Q : DK} : rdLe (.int i) (.int j) μ Q = (Q (.bl (decide (i ≤ j))) μ) := by simp [rdLe]
@[simp] theorem rdGt_i {i j : Int} {μ : Sto} {Q : DK} : rdGt (.int i) (.int j) μ Q = (Q (.bl (decide (j < i))) μ) := by simp [rdGt]
@[simp] theorem rdGe_i {i j : Int} {μ : Sto} {Q : DK} : rdGe (.int i) (.int j) μ Q = (Q (.bl (decide (j ≤ i))) μ) := by simp [rdGe]
/-- are two data equal -/
def D.eqv (x y : D) : Bool := PyData.eqv x.py y.py
def scD : D → D → Bool
  | .int _, .int _ => true
  | .str _, .str _ => true
  | _, _ => false
def okEq (x y : D) : Prop := scD x y = true ∨ (x.flat = true ∧ y.flat = true ∧ SeqAt.shaped x.py = true ∧ SeqAt.shaped y.py = true)
@[simp] def rdEq : RD2 := fun x y μ Q => okEq x y ∧ Q (.bl (D.eqv x y)) μ
@[simp] def rdNe : RD2 := fun x y μ Q => okEq x y ∧ Q (.bl (!D.eqv x y)) μ
@[simp] def isNonD : D → Bool
  | .non => true
  | _ => false
def rdIs : RD2
  | x, .non, μ, Q => Q (.bl (isNonD x)) μ
  | _, _, _, _ => False
@[simp] theorem rdIs_1 : rdIs  x0 (.non) μ0 Q0 = (Q0 (.bl (isNonD x0)) μ0) := rfl
def rdIsNot : RD2
  | x, .non, μ, Q => Q (.bl (!isNonD x)) μ
  | _, _, _, _ => False
@[simp] theorem rdIsNot_1 : rdIsNot  x0 (.non) μ0 Q0 = (Q0 (.bl (!isNonD x0)) μ0) := rfl

section
variable {K : PySem.W.Frag} {mg : Str → Option Value}
theorem ops_I {C : Int → Int → Prop} {C' : Int → Int → Prop} {g : Int → Int → V} {g' : Int → Int → D} (hC : ∀ i j, C' i j → C i j) (hg : ∀ i j F, Dt K mg F (g i j) (g' i j)) : OpS K mg (rI C g) (rdI C' g') := by
  intro F μ H x y dx dy Qd Q o wx wy h k
  cases dx <;> cases dy <;> first | exact h.elim | skip
  obtain ⟨h1, h2⟩ := h
  exact ⟨_, _, wx.int, wy.int, hC _ _ h1, k _ F μ H _ .refl o (hg _ _ F) h2⟩
theorem ops_I0 {C' : Int → Int → Prop} {g : Int → Int → V} {g' : Int → Int → D} (hg : ∀ i j F, Dt K mg F (g i j) (g' i j)) : OpS K mg (rI0 g) (rdI C' g') := by
  intro F μ H x y dx dy Qd Q o wx wy h k
  cases dx <;> cases dy <;> first | exact h.elim | skip
  obtain ⟨h1, h2⟩ := h
  exact ⟨_, _, wx.int, wy.int, k _ F μ H _ .refl o (hg _ _ F) h2⟩
/-- one value, the heap as it stands -/
theorem fin0 {F : Hp} {μ : Sto} {H : Hp} {Qd : DK} {Q : VK} (o : Ok K mg F μ H) (k : ∀ v F' μ' H' dv, Ext F μ H F' μ' H' → Ok K mg F' μ' H' → Dt K mg F' v dv → Qd dv μ' → Q v H') {v : V} {d : D} (h : Dt K mg F v d) (q : Qd d μ) : Q v H :=
  k v F μ H d .refl o h q
def rAddA (K : PySem.W.Frag) : R2 := fun x y H Q => (rI0 (fun i j => .int (i + j)) x y H Q ∨ (∃ i j, x = .str i ∧ y = .str j ∧ i.length + j.length ≤ sizeLine ∧ Q (.str (i ++ j)) H)) ∨ ((rCatZ K x y H Q ∨ rCat x y H Q) ∨ (∃ i k, x = .int i ∧ y = .bl k ∧ Q (.int (i + b2i k)) H))
theorem op_addA {X : Cx} : OpR X (binaryOp .Add) (rAddA X.K) := .or (.or op_add op_add_str) (.or (.or op_catZ op_cat) op_add_ib)
theorem ops_add : OpS K mg (rAddA K) rdAdd := by
  intro F μ H x y dx dy Qd Q o wx wy h k
  cases dx <;> cases dy <;> first | exact h.elim | skip
  · exact .inr (.inr ⟨_, _, wx.int, wy.bl, fin0 o k (.int _) h⟩)
  · exact .inl (.inl ⟨_, _, wx.int, wy.int, fin0 o k (.int _) h⟩)
  · obtain ⟨h1, h2⟩ := h
    refine .inl (.inr ⟨_, _, wx.str, wy.str, ?_, ?_⟩)
    · rw [S_len, S_len, sizeLine_eq]; exact h1
    · rw [S_app]; exact fin0 o k (.str _) h2
  · obtain ⟨h1, h2⟩ := h
    obtain ⟨a, vs, rfl, ha, _, ra⟩ := wx.tup o
    obtain ⟨b, ws, rfl, hb, _, rb⟩ := wy.tup o
    refine .inr (.inl (.inl ⟨a, b, vs, ws, rfl, rfl, ha, hb, ?_, fun e => ?_, fun e1 e2 => ?_, fun e1 e2 p ob hp hob => ?_⟩))
    · rw [ra.length, rb.length, sizeLine_eq]; exact h1
    · subst e; cases ra
      rcases wy with wy | ⟨_, _, _, _, q, _⟩
      · exact fin0 o k wy h2
      · cases q
    · subst e2; cases rb
      rw [List.append_nil] at h2
      rcases wx with wx | ⟨_, _, _, _, q, _⟩
      · exact fin0 o k wx h2
      · cases q
    · obtain ⟨g1, g2, g3⟩ := newTup o (ra.append rb) hp hob
      exact k _ _ _ _ _ g1 g2 g3 h2
  · obtain ⟨h1, h2⟩ := h
    obtain ⟨a, vs, rfl, ha, ra⟩ := wx.lst o
    obtain ⟨b, ws, rfl, hb, rb⟩ := wy.lst o
    refine .inr (.inl (.inr ⟨a, b, vs, ws, rfl, rfl, ha, hb, ?_, fun p hp => ?_⟩))
    · rw [ra.length, rb.length, sizeLine_eq]; exact h1
    · obtain ⟨g1, g2, g3⟩ := newLst o (ra.append rb) hp
      exact k _ _ _ _ _ g1 g2 g3 h2
  · obtain ⟨us, h0, h1, h2⟩ := h
    cases wx.ref
    obtain ⟨vs, ha, ra⟩ := o.sto _ _ h0
    obtain ⟨b, ws, rfl, hb, rb⟩ := wy.lst o
    refine .inr (.inl (.inr ⟨_, b, vs, ws, rfl, rfl, ha, hb, ?_, fun p hp => ?_⟩))
    · rw [ra.length, rb.length, sizeLine_eq]; exact h1
    · obtain ⟨g1, g2, g3⟩ := newLst o (ra.append rb) hp
      exact k _ _ _ _ _ g1 g2 g3 h2
theorem ops_sub : OpS K mg (rI0 fun i j => .int (i - j)) rdSub := ops_I0 fun _ _ _ => .int _
theorem ops_mod : OpS K mg (rI (fun _ j => 0 < j) fun i j => .int (i % j)) rdMod := ops_I (fun _ _ h => h) fun _ _ _ => .int _
theorem ops_pow : OpS K mg (rI CPow fun i j => .int (i ^ j.toNat)) rdPow := ops_I (fun _ _ h => h) fun _ _ _ => .int _
theorem ops_shl : OpS K mg (rI CPow fun i j => .int (i * 2 ^ j.toNat)) rdShl := ops_I (fun _ _ h => h) fun _ _ _ => .int _
theorem ops_shr : OpS K mg (rI (fun _ j => 0 ≤ j) fun i j => .int (i / 2 ^ j.toNat)) rdShr := ops_I (fun _ _ h => h) fun _ _ _ => .int _
theorem ops_and : OpS K mg (rI0 fun i j => .int (Builtin.bitAnd i j)) rdAnd := ops_I0 fun _ _ _ => .int _
def rDivA : R2 := fun x y H Q => rI CDiv (fun i j => .int (i / j)) x y H Q ∨ rI CDivW (fun i j => .int (i / j)) x y H Q
theorem op_divA {X : Cx} : OpR X (binaryOp .FloorDiv) rDivA := .or op_fdiv op_fdivW
theorem ops_div : OpS K mg rDivA rdDiv := by
  intro F μ H x y dx dy Qd Q o wx wy h k
  cases dx <;> cases dy <;> first | exact h.elim | skip
  obtain ⟨⟨h0, h1 | h1⟩, h2⟩ := h
  · exact .inl ⟨_, _, wx.int, wy.int, ⟨h0, h1⟩, fin0 o k (.int _) h2⟩
  · exact .inr ⟨_, _, wx.int, wy.int, ⟨h0, h1⟩, fin0 o k (.int _) h2⟩
/-- text * int -/
def rRepS : R2 := fun x y H Q => ∃ s n, x = .str s ∧ y = .int n ∧ PySem.MulOk s n ∧ Q (.str (PySem.Txt.mul s n)) H
theorem op_repS {X : Cx} : OpR X (binaryOp .Mult) rRepS := by
  intro pins s σ H x y v u Q I rx ry h
  obtain ⟨z, n, rfl, rfl, hm, q⟩ := h
  obtain ⟨t, rfl⟩ := rx
  obtain ⟨t', rfl⟩ := ry
  exact PySem.SB.mul hm fun t' k => ⟨.str _, H, I.tok _, ⟨_, rfl⟩, q⟩
theorem repl_one {α : Type} (l : List α) : repl 1 l = l := by simp [repl]
theorem flat_const {α : Type} (l : List α) : ∀ n : Nat, (List.replicate (n + 1) l).flatten = l ++ (List.replicate n l).flatten := fun n => by rw [List.replicate_succ, List.flatten_cons]
end
end DL

namespace DL
open PySem PySem.Spec PyProof.Rows L2
section
variable {K : PySem.W.Frag} {mg : Str → Option Value}

theorem foldl_arr (l : List Nat) : ∀ (n : Nat) (acc : List Nat), (List.replicate n l.toArray).foldl (· ++ ·) acc.toArray = (acc ++ repl n l).toArray := by
  intro n
  induction n with
  | zero => intro acc; simp [repl]
  | succ n ih =>
    intro acc
    rw [List.replicate_succ, List.foldl_cons, List.append_toArray, ih]
    simp [repl, List.replicate_succ]
theorem S_mul (l : List Nat) (n : Int) : PySem.Txt.mul (S l) n = S (repl n.toNat l) := by
  unfold PySem.Txt.mul
  by_cases h : n < 1
  · rw [if_pos h, show n.toNat = 0 by omega]
    rfl
  · rw [if_neg h]
    by_cases c : (n == 1 || (S l).length == 0) = true
    · rw [if_pos c]
      rcases Bool.or_eq_true_iff.mp c with c | c
      · have e : n = 1 := by simpa using c
        subst e
        show S l = S (repl 1 l)
        rw [repl_one]
      · have e : l = [] := by
          rw [S_len] at c
          exact List.eq_nil_of_length_eq_zero (by simpa using c)
        subst e
        simp [repl]
    · rw [if_neg c]
      have := foldl_arr l n.toNat []
      rw [List.nil_append] at this
      show (⟨List.foldl (fun x1 x2 => x1 ++ x2) #[] (List.replicate n.toNat l.toArray)⟩ : Str) = ⟨(repl n.toNat l).toArray⟩
      rw [← this]
theorem mulOk_S {l : List Nat} {n : Int} (h1 : n ≤ 1000000) (h2 : -1000000 ≤ n) (h3 : l.length * n.toNat ≤ SZ) : PySem.MulOk (S l) n := by
  refine ⟨?_, fun a b => ?_, fun a b => ?_⟩
  · rw [decide_eq_false (by omega), decide_eq_false (by omega)]; rfl
  · rw [S_len]
    intro c
    have h4 : (l.length : Int) * n ≤ SZ := by
      have : ((l.length * n.toNat : Nat) : Int) ≤ (SZ : Nat) := by exact_mod_cast h3
      rw [Int.natCast_mul, Int.toNat_of_nonneg (by omega)] at this
      exact this
    have h5 : (9223372036854775807 : Int) / n < l.length := c
    have h6 : (9223372036854775807 : Int) < l.length * n := by
      have := Int.lt_mul_of_ediv_lt (show (0 : Int) < n by omega) h5
      omega
    have : ((SZ : Nat) : Int) = 16777216 := rfl
    omega
  · rw [S_len]
    show Builtin.Str.tooLong _ = false
    unfold Builtin.Str.tooLong
    rw [sizeLine_eq]
    exact decide_eq_false (Nat.not_lt.mpr h3)
theorem tmul_same (l : Addr) (its : Array Value) (n : Nat) (dd : Option Addr) (sl : Array (Option Value)) (x : Int) (u : Tok) (c0 : (decide (x < -(2 ^ 63)) || decide (x ≥ 2 ^ 63)) = false) (c1 : (its.isEmpty || x == 1) = true) :
    Meets (Builtin.«tuple.__mul__» ⟨[.ref l, .int x u], []⟩) (fun _ R s => s.heap.get? l = some { cls := .type "tuple", dict := dd, data := .seq its n, slots := sl } ∧ R (.ok (.ret (Value.ref l))) s) :=
  .of_wp fun prog w A R s h => by
    obtain ⟨hp, g, d, tk, os⟩ := s
    obtain ⟨hl, h⟩ := h
    have f1 := AutoSeq1.idx_int
    wp_walk using wpAny_loadPart' hl
    repeat (first
      | (refine wpAny_ite_false (decide_eq_false (by rw [c0]; exact Bool.false_ne_true)) ?_; wp_walk using wpAny_loadPart' hl)
      | (refine wpAny_ite_true (decide_eq_true (by rw [c1])) ?_; wp_walk using wpAny_loadPart' hl))
    exact ⟨_, rfl, h⟩
theorem tmul_none (l : Addr) (its : Array Value) (n : Nat) (dd : Option Addr) (sl : Array (Option Value)) (x : Int) (u : Tok) (c0 : (decide (x < -(2 ^ 63)) || decide (x ≥ 2 ^ 63)) = false) (c1 : (its.isEmpty || x == 1) = false) (c2 : (decide (x ≤ 0) || its.isEmpty) = true) :
    Meets (Builtin.«tuple.__mul__» ⟨[.ref l, .int x u], []⟩) (fun _ R s => s.heap.get? l = some { cls := .type "tuple", dict := dd, data := .seq its n, slots := sl } ∧
      R (.ok (.ret (Value.ref s.heap.objs.size))) { s with heap := s.heap.push { cls := Value.type "tuple", data := Data.seq #[] }, toks := s.toks }) :=
  .of_wp fun prog w A R s h => by
    obtain ⟨hp, g, d, tk, os⟩ := s
    obtain ⟨hl, h⟩ := h
    have f1 := AutoSeq1.idx_int
    wp_walk using wpAny_loadPart' hl
    repeat (first
      | (refine wpAny_ite_false (decide_eq_false (by rw [c0]; exact Bool.false_ne_true)) ?_; wp_walk using wpAny_loadPart' hl)
      | (refine wpAny_ite_false (decide_eq_false (by rw [c1]; exact Bool.false_ne_true)) ?_; wp_walk using wpAny_loadPart' hl)
      | (refine wpAny_ite_true (decide_eq_true (by rw [c2])) ?_; wp_walk using wpAny_loadPart' hl))
    exact ⟨_, rfl, h⟩
def rRepT1 (K : PySem.W.Frag) : R2 := fun x y H Q => ∃ l k xs, x = .ref l ∧ y = .int k ∧ SqT K H l xs ∧ -1000 ≤ k ∧ k ≤ 1000 ∧ (k ≤ 1 ∨ xs = []) ∧ ((k = 1 ∨ xs = []) → Q (.ref l) H) ∧ (k ≤ 0 → xs ≠ [] → newT H Q [])
theorem op_repT1 {X : Cx} : OpR X (binaryOp .Mult) (rRepT1 X.K) := by
  intro pins s σ H x y v u Q I rx ry h
  obtain ⟨l, k, xs, rfl, rfl, hT, h1, h2, h3, qa, qb⟩ := h
  cases rx
  obtain ⟨t, rfl⟩ := ry
  obtain ⟨its, r, ⟨⟨cls, dd, data, sl⟩, ho, hc, n, hd⟩, hs⟩ := I.tuple hT
  simp only at hc hd
  subst hc hd
  have hle : its.length = xs.length := r.length.symm
  have c0 : (decide (k < -(2 ^ 63)) || decide (k ≥ 2 ^ 63)) = false := by
    rw [decide_eq_false (by omega), decide_eq_false (by omega)] <;> rfl
  have go : ∀ {RR : (Result → Shared → Prop) → Shared → Prop}, Meets (Builtin.«tuple.__mul__» ⟨[.ref l, .int k t], []⟩) (fun _ R s => s.heap.get? l = some { cls := .type "tuple", dict := dd, data := .seq its.toArray n, slots := sl } ∧ RR R s) →
      (∀ R : Result → Shared → Prop, (∀ v' s', EP X pins σ Q v' s' → R (.ok (.ret v')) s') → RR R s) → wpAny (model X.prog X.w) X.A (binaryOp .Mult (.ref l) (.int k t)) (EP X pins σ Q) X.xe s := fun {RR} hm hr =>
    wpAny_binaryOp_repeat_ref (T := "tuple") (U := "int") (by decide) ⟨_, ho, rfl⟩ (fun s' => typeIs_int s' k t) noFill_tuple_mul F.fills_int_mul F.slot_int_rmul repeat_tuple F.slot_int_index.lookup
      (call_meets F.slot_int_rmul (typeIs_int s k t) F.entry_int_rmul (F.args_int_rmul_2 _ _) (int_rmul_tuple k t l its.toArray n dd sl)
        ⟨ho, rfl, ⟨_, ho, rfl⟩, call_meets F.slot_tuple_mul ⟨_, ho, rfl⟩ F.entry_tuple_mul (F.args_tuple_mul_2 _ _) hm ⟨ho, hr _ fun v' s' z => z⟩⟩)
  by_cases hk : k = 1 ∨ xs = []
  · have c1 : (its.toArray.isEmpty || k == 1) = true := by
      rcases hk with hk | hk
      · subst hk; simp
      · subst hk
        have : its = [] := List.eq_nil_of_length_eq_zero hle
        subst this; rfl
    exact go (tmul_same l its.toArray n dd sl k t c0 c1) fun R hR => hR _ _ ⟨.ref l, H, I, rfl, qa hk⟩
  · have hn : its ≠ [] := fun e => hk (.inr (List.eq_nil_of_length_eq_zero (by rw [← hle, e]; rfl)))
    have hi : its.toArray.isEmpty = false := by
      cases its with
      | nil => exact absurd rfl hn
      | cons a b => rfl
    have hk0 : k ≤ 0 := by
      have : k ≠ 1 := fun e => hk (.inl e)
      rcases h3 with h3 | h3
      · omega
      · exact absurd (.inr h3) hk
    have c1 : (its.toArray.isEmpty || k == 1) = false := by
      rw [hi, Bool.false_or]
      exact beq_eq_false_iff_ne.mpr (by omega)
    have c2 : (decide (k ≤ 0) || its.toArray.isEmpty) = true := by rw [decide_eq_true hk0]; rfl
    exact go (tmul_none l its.toArray n dd sl k t c0 c1 c2) fun R hR => hR _ _ (fin_tup (its := []) I (Nat.zero_le _) .nil (qb hk0 fun e => hk (.inr e)))
def rMulA (K : PySem.W.Frag) : R2 := fun x y H Q => (rI CMul (fun i j => .int (i * j)) x y H Q ∨ rI CMulW (fun i j => .int (i * j)) x y H Q) ∨ ((rRepS x y H Q ∨ (rRepZ K x y H Q ∨ rRepT1 K x y H Q)) ∨ rRep x y H Q)
theorem op_mulA {X : Cx} : OpR X (binaryOp .Mult) (rMulA X.K) := .or (.or op_mul op_mulW) (.or (.or op_repS (.or op_repZ op_repT1)) op_rep)
theorem Dts.repl {F : Hp} {vs : List V} {ds : List D} (r : Dts K mg F vs ds) : ∀ n, Dts K mg F (List.replicate n vs).flatten (List.replicate n ds).flatten
  | 0 => .nil
  | n + 1 => by
    rw [flat_const, flat_const]
    exact r.append (Dts.repl r n)
theorem ops_mul : OpS K mg (rMulA K) rdMul := by
  intro F μ H x y dx dy Qd Q o wx wy h k
  cases dx <;> cases dy <;> first | exact h.elim | skip
  · obtain ⟨h1 | h1 | h1, h2⟩ := h
    · exact .inl (.inl ⟨_, _, wx.int, wy.int, .inl h1, fin0 o k (.int _) h2⟩)
    · exact .inl (.inl ⟨_, _, wx.int, wy.int, .inr h1, fin0 o k (.int _) h2⟩)
    · exact .inl (.inr ⟨_, _, wx.int, wy.int, h1, fin0 o k (.int _) h2⟩)
  · obtain ⟨h1, h2, h3, h4⟩ := h
    refine .inr (.inl (.inl ⟨_, _, wx.str, wy.int, mulOk_S h1 h2 h3, ?_⟩))
    rw [S_mul]
    exact fin0 o k (.str _) h4
  · rename_i sx nx
    obtain ⟨h1, h2, h4, h5⟩ := h
    obtain ⟨a, vs, rfl, ha, hf, ra⟩ := wx.tup o
    have wd : Dt K mg F (.ref a) (.tup sx) := .tup hf ra
    by_cases hs : nx ≤ 1 ∨ sx = []
    · have e0 : vs = [] ↔ sx = [] := by
        constructor
        · intro e; subst e; cases ra; rfl
        · intro e; subst e; cases ra; rfl
      refine .inr (.inl (.inr (.inr ⟨a, _, vs, rfl, wy.int, ha, h1, h2, hs.imp id e0.mpr, fun hk => ?_, fun hk hne p ob hp hob => ?_⟩)))
      · have : repl nx.toNat sx = sx := by
          rcases hk with hk | hk
          · subst hk; exact repl_one sx
          · rw [e0.mp hk]; simp [repl]
        rw [this] at h5
        exact fin0 o k wd h5
      · rw [show nx.toNat = 0 by omega] at h5
        obtain ⟨g1, g2, g3⟩ := newTup o (vs := []) (ds := []) .nil hp hob
        exact k _ _ _ _ _ g1 g2 g3 h5
    · refine .inr (.inl (.inr (.inl ⟨a, _, vs, rfl, wy.int, ha, fun e => hs ?_, by omega, by omega, by rw [ra.length]; exact h4, fun p ob hp hob => ?_⟩)))
      · subst e; cases ra; exact .inr rfl
      · obtain ⟨g1, g2, g3⟩ := newTup o (ra.repl _) hp hob
        exact k _ _ _ _ _ g1 g2 g3 h5
  · obtain ⟨h1, h2, h3, h5⟩ := h
    obtain ⟨a, vs, rfl, ha, ra⟩ := wx.lst o
    refine .inr (.inr ⟨a, _, vs, rfl, wy.int, ha, by omega, by omega, by rw [ra.length, sizeLine_eq]; exact h3, fun p hp => ?_⟩)
    obtain ⟨g1, g2, g3⟩ := newLst o (ra.repl _) hp
    exact k _ _ _ _ _ g1 g2 g3 h5

def rLtA : R2 := fun x y H Q => rI0 (fun i j => .bl (decide (i < j))) x y H Q ∨ ∃ i j, x = .str i ∧ y = .str j ∧ Q (.bl (decide (i.cps.toList < j.cps.toList))) H
theorem op_ltA {X : Cx} : OpR X (compareOp .Lt) rLtA := .or op_lt op_lt_str
theorem ops_lt : OpS K mg rLtA rdLt := by
  intro F μ H x y dx dy Qd Q o wx wy h k
  cases dx <;> cases dy <;> first | exact h.elim | skip
  · exact .inl ⟨_, _, wx.int, wy.int, fin0 o k (.bl _) h⟩
  · refine .inr ⟨_, _, wx.str, wy.str, ?_⟩
    rw [S_list, S_list]
    exact fin0 o k (.bl _) h
theorem ops_le : OpS K mg (rI0 fun i j => .bl (decide (i ≤ j))) rdLe := ops_I0 fun _ _ _ => .bl _
theorem ops_gt : OpS K mg (rI0 fun i j => .bl (decide (j < i))) rdGt := ops_I0 fun _ _ _ => .bl _
theorem ops_ge : OpS K mg (rI0 fun i j => .bl (decide (j ≤ i))) rdGe := ops_I0 fun _ _ _ => .bl _
abbrev r2Or (r r' : R2) : R2 := fun x y H Q => r x y H Q ∨ r' x y H Q
theorem op_eqA {X : Cx} (hu : X.A.units + 64 < cLine) : OpR X (compareOp .Eq) (r2Or (rEqD X.K) rEq) := .or (op_eqD hu) op_eq
theorem op_neA {X : Cx} (hu : X.A.units + 64 < cLine) : OpR X (compareOp .NotEq) (r2Or (rNeD X.K) rNe) := .or (op_neD hu) op_ne
theorem sc_dec {K : PySem.W.Frag} {mg : Str → Option Value} {F H : Hp} {μ : Sto} {x y : V} {dx dy : D} (wx : Wk K mg F μ H x dx) (wy : Wk K mg F μ H y dy) (h : scD dx dy = true) : scal x y = true ∧ decide (x = y) = D.eqv dx dy := by
  cases dx <;> cases dy <;> first | exact (Bool.false_ne_true h).elim | skip
  · rw [wx.int, wy.int]; exact ⟨rfl, dec_int⟩
  · rw [wx.str, wy.str]; exact ⟨rfl, dec_str⟩
theorem ops_eq : OpS K mg (r2Or (rEqD K) rEq) rdEq := by
  intro F μ H x y dx dy Qd Q o wx wy h k
  obtain ⟨h | ⟨f1, f2, s1, s2⟩, q⟩ := h
  · obtain ⟨g1, g2⟩ := sc_dec wx wy h
    exact .inr ⟨g1, by rw [g2]; exact fin0 o k (.bl _) q⟩
  · exact .inl ⟨_, _, wx.dp o f1, wy.dp o f2, s1, s2, fin0 o k (.bl _) q⟩
theorem ops_ne : OpS K mg (r2Or (rNeD K) rNe) rdNe := by
  intro F μ H x y dx dy Qd Q o wx wy h k
  obtain ⟨h | ⟨f1, f2, s1, s2⟩, q⟩ := h
  · obtain ⟨g1, g2⟩ := sc_dec wx wy h
    exact .inr ⟨g1, by rw [g2]; exact fin0 o k (.bl _) q⟩
  · exact .inl ⟨_, _, wx.dp o f1, wy.dp o f2, s1, s2, fin0 o k (.bl _) q⟩
/-- None, a bool, a whole number, a text -/
def D.sc : D → Bool
  | .non => true | .bl _ => true | .int _ => true | .str _ => true
  | _ => false
theorem Dt.sc {F : Hp} {v : V} {d : D} (h : Dt K mg F v d) (q : d.sc = true) : L2.flatV v = true := by
  cases h <;> first | rfl | cases q
theorem Dts.sc {F : Hp} : ∀ {vs : List V} {ds : List D}, Dts K mg F vs ds → ds.all D.sc = true → vs.all L2.flatV = true
  | _, _, .nil, _ => rfl
  | _, _, .cons h r, q => by
    rw [List.all_cons, Bool.and_eq_true_iff] at q ⊢
    exact ⟨h.sc q.1, Dts.sc r q.2⟩
theorem Dt.eqv {F F' : Hp} {v w : V} {d e : D} (h : Dt K mg F v d) (g : Dt K mg F' w e) (q : d.sc = true) (p : e.sc = true) : L2.eqV v w = D.eqv d e := by
  cases h <;> first | cases q | skip
  all_goals cases g <;> first | cases p | skip
  all_goals rfl
theorem Dts.any {F F' : Hp} {w : V} {e : D} (g : Dt K mg F' w e) (p : e.sc = true) : ∀ {vs : List V} {ds : List D}, Dts K mg F vs ds → ds.all D.sc = true → L2.inV w vs = ds.any fun z => D.eqv z e
  | _, _, .nil, _ => rfl
  | _, _, .cons h r, q => by
    rw [List.all_cons, Bool.and_eq_true_iff] at q
    have := Dts.any g p r q.2
    unfold L2.inV at this ⊢
    rw [List.any_cons, List.any_cons, this, h.eqv g q.1 p]
/-- in: a sign in a text; a scalar in a list or tuple of scalars -/
@[simp] def inL (neg : Bool) (x : D) (ds : List D) (μ : Sto) (Q : DK) : Prop := x.sc = true ∧ ds.all D.sc = true ∧ Q (.bl (if neg then !(ds.any fun z => D.eqv z x) else ds.any fun z => D.eqv z x)) μ
def inS (neg : Bool) : D → List Nat → Sto → DK → Prop
  | .str [c], s, μ, Q => Q (.bl (if neg then !decide (c ∈ s) else decide (c ∈ s))) μ
  | _, _, _, _ => False
@[simp] theorem inS_1 (neg : Bool) {c : Nat} {s : List Nat} {μ : Sto} {Q : DK} : inS neg (.str [c]) s μ Q = (Q (.bl (if neg then !decide (c ∈ s) else decide (c ∈ s))) μ) := rfl
def rdInN (neg : Bool) : RD2
  | x, .str s, μ, Q => inS neg x s μ Q
  | x, .lst ds, μ, Q => inL neg x ds μ Q
  | x, .tup ds, μ, Q => inL neg x ds μ Q
  | _, _, _, _ => False
@[simp] theorem rdInN_1 (neg : Bool) {x : D} {s : List Nat} {μ : Sto} {Q : DK} : rdInN neg x (.str s) μ Q = inS neg x s μ Q := rfl
@[simp] theorem rdInN_2 (neg : Bool) {x : D} {s : List D} {μ : Sto} {Q : DK} : rdInN neg x (.lst s) μ Q = inL neg x s μ Q := rfl
@[simp] theorem rdInN_3 (neg : Bool) {x : D} {s : List D} {μ : Sto} {Q : DK} : rdInN neg x (.tup s) μ Q = inL neg x s μ Q := rfl
theorem Wk.val {F H : Hp} {μ : Sto} {x : V} {d : D} (h : Wk K mg F μ H x d) (q : d.sc = true) : Dt K mg F x d := by
  rcases h with h | ⟨a, vs, xs, rfl, rfl, _⟩
  · exact h
  · cases q
/-- x[i] -/
def rdIx : RD2
  | .lst ds, .int i, μ, Q => ∃ d, atI ds i = some d ∧ Q d μ
  | .tup ds, .int i, μ, Q => ∃ d, atI ds i = some d ∧ Q d μ
  | .str s, .int i, μ, Q => s.length ≤ SZ ∧ ∃ c, atI s i = some c ∧ Q (.str [c]) μ
  | .scr ns, .int i, μ, Q => ∃ n, atI ns i = some n ∧ Q (.int n) μ
  | .ref a, .int i, μ, Q => ∃ ds d, μ a = some (.lst ds) ∧ atI ds i = some d ∧ Q d μ
  | _, _, _, _ => False
@[simp] theorem rdIx_1 : rdIx  (.lst ds0) (.int i0) μ0 Q0 = (∃ d, atI ds0 i0 = some d ∧ Q0 d μ0) := rfl
@[simp] theorem rdIx_2 : rdIx  (.tup ds0) (.int i0) μ0 Q0 = (∃ d, atI ds0 i0 = some d ∧ Q0 d μ0) := rfl
@[simp] theorem rdIx_3 : rdIx  (.str s0) (.int i0) μ0 Q0 = (s0.length ≤ SZ ∧ ∃ c, atI s0 i0 = some c ∧ Q0 (.str [c]) μ0) := rfl
@[simp] theorem rdIx_4 : rdIx  (.scr ns0) (.int i0) μ0 Q0 = (∃ n, atI ns0 i0 = some n ∧ Q0 (.int n) μ0) := rfl
@[simp] theorem rdIx_5 : rdIx  (.ref a0) (.int i0) μ0 Q0 = (∃ ds d, μ0 a0 = some (.lst ds) ∧ atI ds i0 = some d ∧ Q0 d μ0) := rfl
theorem Dts.atI {F : Hp} {vs : List V} {ds : List D} {i : Int} {d : D} (r : Dts K mg F vs ds) (h : L2.atI ds i = some d) : ∃ v, L2.atI vs i = some v ∧ Dt K mg F v d := by
  unfold L2.atI at h ⊢
  rw [r.length]
  cases e : ixN ds.length i with
  | none => rw [e] at h; cases h
  | some j =>
    rw [e] at h
    exact r.get h
theorem atI_map {α β : Type} {f : α → β} {xs : List α} {i : Int} {x : α} (h : L2.atI xs i = some x) : L2.atI (xs.map f) i = some (f x) := by
  unfold L2.atI at h ⊢
  rw [List.length_map]
  cases e : ixN xs.length i with
  | none => rw [e] at h; cases h
  | some j =>
    rw [e] at h
    have h' : xs[j]? = some x := h
    show (xs.map f)[j]? = _
    rw [List.getElem?_map, h']
    rfl
theorem ops_ix : OpS K mg (rIx K) rdIx := by
  intro F μ H x y dx dy Qd Q o wx wy h k
  cases dx <;> cases dy <;> first | exact h.elim | skip
  · obtain ⟨h0, c, h1, h2⟩ := h
    refine .inr (.inr ⟨_, _, c, wx.str, wy.int, by rw [S_len, sizeLine_eq]; exact h0, by rw [S_list]; exact h1, fin0 o k (.str [c]) h2⟩)
  · obtain ⟨d, h1, h2⟩ := h
    obtain ⟨a, vs, rfl, ha, _, ra⟩ := wx.tup o
    obtain ⟨v, g1, g2⟩ := ra.atI h1
    exact .inr (.inl ⟨a, vs, _, v, rfl, wy.int, ha, g1, fin0 o k g2 h2⟩)
  · obtain ⟨d, h1, h2⟩ := h
    obtain ⟨a, vs, rfl, ha, ra⟩ := wx.lst o
    obtain ⟨v, g1, g2⟩ := ra.atI h1
    exact .inl ⟨a, vs, _, v, rfl, wy.int, .inl (.inl ha), g1, fin0 o k g2 h2⟩
  · obtain ⟨n, h1, h2⟩ := h
    obtain ⟨a, rfl, ha⟩ := wx.scr o
    exact .inl ⟨a, _, _, _, rfl, wy.int, ha, atI_map h1, fin0 o k (.int _) h2⟩
  · obtain ⟨ds, d, h0, h1, h2⟩ := h
    cases wx.ref
    obtain ⟨vs, ha, ra⟩ := o.sto _ _ h0
    obtain ⟨v, g1, g2⟩ := ra.atI h1
    exact .inl ⟨_, vs, _, v, rfl, wy.int, .inl (.inl ha), g1, fin0 o k g2 h2⟩
end
section
variable {X : Cx} {a b e : Expr} {da db : TED} {pos : Pos}
theorem de_ix (ha : DW X a da) (hb : DW X b db) (hs : PlainIx b) : DE X (.Subscript a b pos) (dOp rdIx da db) := (pe_ix ix_seq ha hb hs).weaken fun _ _ _ q => lift_op ops_ix q

abbrev TOD := DEnv → Sto → (Option Int → Sto → Prop) → Prop
def liftO (K : PySem.W.Frag) (mg : Str → Option Value) (d : TOD) : TO := fun σ H Q => ∃ F ρ μ Qd, Rel K mg F ρ μ σ H ∧ d ρ μ Qd ∧ ∀ b F' μ' H', Ext F μ H F' μ' H' → Ok K mg F' μ' H' → Qd b μ' → Q b H'
structure DO (X : Cx) (e : Option Expr) (d : TOD) : Prop where
  po : ∃ t, PO X e t ∧ ∀ σ H Q, liftO X.K X.mg d σ H Q → t σ H Q
@[simp] def dNoPart : TOD := fun _ μ Q => Q none μ
@[simp] def dPart (d : TED) : TOD := fun ρ μ Q => d ρ μ fun x μ1 => ∃ i, x = .int i ∧ Q (some i) μ1
theorem do_none : DO X none dNoPart := ⟨_, po_none, fun σ H Q q => by
  obtain ⟨F, ρ, μ, Qd, R, hd, k⟩ := q
  exact k none F μ H .refl R.ok hd⟩
theorem do_some (h : DE X e da) : DO X (some e) (dPart da) := ⟨_, po_some h, fun σ H Q q => by
  obtain ⟨F, ρ, μ, Qd, R, hd, k⟩ := q
  refine ⟨F, ρ, μ, _, R, hd, fun v F1 μ1 H1 dv e1 o1 w1 q1 => ?_⟩
  obtain ⟨i, rfl, q1⟩ := q1
  cases w1
  exact ⟨i, rfl, k _ F1 μ1 H1 e1 o1 q1⟩⟩
def cut {α : Type} (l : List α) (lo hi : Option Int) : List α := (l.drop (HT.sIx l.length 0 lo)).take (HT.sIx l.length l.length hi - HT.sIx l.length 0 lo)
def rdSl : D → Option Int → Option Int → Sto → DK → Prop
  | .str s, lo, hi, μ, Q => s.length ≤ SZ ∧ Q (.str (cut s lo hi)) μ
  | .tup ds, lo, hi, μ, Q => Q (.tup (cut ds lo hi)) μ
  | .lst ds, lo, hi, μ, Q => Q (.lst (cut ds lo hi)) μ
  | .scr ns, lo, hi, μ, Q => Q (.lst ((cut ns lo hi).map D.int)) μ
  | _, _, _, _, _ => False
@[simp] theorem rdSl_1 : rdSl  (.str s0) lo0 hi0 μ0 Q0 = (s0.length ≤ SZ ∧ Q0 (.str (cut s0 lo0 hi0)) μ0) := rfl
@[simp] theorem rdSl_2 : rdSl  (.tup ds0) lo0 hi0 μ0 Q0 = (Q0 (.tup (cut ds0 lo0 hi0)) μ0) := rfl
@[simp] theorem rdSl_3 : rdSl  (.lst ds0) lo0 hi0 μ0 Q0 = (Q0 (.lst (cut ds0 lo0 hi0)) μ0) := rfl
@[simp] theorem rdSl_4 : rdSl  (.scr ns0) lo0 hi0 μ0 Q0 = (Q0 (.lst ((cut ns0 lo0 hi0).map D.int)) μ0) := rfl
@[simp] def dSl (a : TED) (lo hi : TOD) : TED := fun ρ μ Q => a ρ μ fun x μ1 => lo ρ μ1 fun l μ2 => hi ρ μ2 fun u μ3 => rdSl x l u μ3 Q
theorem cutS_S (s : List Nat) (l u : Option Int) : cutS (S s) l u = S (cut s l u) := by unfold cutS cut; rw [S_list, S_len]
theorem cutV_cut (vs : List V) (lo hi : Option Int) : cutV vs lo hi = cut vs lo hi := rfl
theorem Dts.cut {K : PySem.W.Frag} {mg : Str → Option Value} {F : Hp} {vs : List V} {ds : List D} (r : Dts K mg F vs ds) (lo hi : Option Int) : Dts K mg F (cut vs lo hi) (cut ds lo hi) := by
  unfold DL.cut
  rw [r.length]
  exact (r.drop _).take _
theorem cut_map {α β : Type} (f : α → β) (l : List α) (lo hi : Option Int) : cut (l.map f) lo hi = (cut l lo hi).map f := by
  unfold cut
  rw [List.length_map, List.map_take, List.map_drop]
theorem cut_all {α : Type} {l : List α} {lo hi : Option Int} (h : HT.sIx l.length 0 lo = 0 ∧ HT.sIx l.length l.length hi = l.length) : cut l lo hi = l := by
  unfold cut
  rw [h.1, h.2]
  simp
def rSlAll (K : PySem.W.Frag) : V → Option Int → Option Int → Hp → VK → Prop := fun x lo hi H Q => (rSlS x lo hi H Q ∨ rSlZ K x lo hi H Q) ∨ rSlL K x lo hi H Q
theorem sl_all {X : Cx} : SlR X (rSlAll X.K) := .or (.or sl_str sl_tupZ) sl_list
variable {lo hi : Option Expr} {dl dh : TOD} {p2 : Pos}
theorem de_slice (ha : DW X a da) (hl : DO X lo dl) (hh : DO X hi dh) : DE X (.Subscript a (.Slice lo hi none p2) pos) (dSl da dl dh) := by
  obtain ⟨tl, pl, sl⟩ := hl
  obtain ⟨th, ph, sh⟩ := hh
  refine (pe_slice sl_all ha pl ph).weaken fun σ H Q q => ?_
  obtain ⟨F, ρ, μ, Qd, R, hd, k⟩ := q
  refine ⟨F, ρ, μ, _, R, hd, fun v F1 μ1 H1 dv e1 o1 w1 q1 => ?_⟩
  refine sl _ _ _ ⟨F1, ρ, μ1, _, R.ext e1 o1, q1, fun l F2 μ2 H2 e2 o2 q2 => ?_⟩
  refine sh _ _ _ ⟨F2, ρ, μ2, _, R.ext (e1.trans e2) o2, q2, fun u F3 μ3 H3 e3 o3 q3 => ?_⟩
  have w3 := (w1.ext e2).ext e3
  have k3 : ∀ z F' μ' H' dz, Ext F3 μ3 H3 F' μ' H' → Ok X.K X.mg F' μ' H' → Dt X.K X.mg F' z dz → Qd dz μ' → Q z H' := fun z F' μ' H' dz e o w q => k z F' μ' H' dz (e1.trans (e2.trans (e3.trans e))) o w q
  cases dv <;> first | exact q3.elim | skip
  · obtain ⟨h1, h2⟩ := q3
    refine .inl (.inl ⟨_, w3.str, by rw [S_len, sizeLine_eq]; exact h1, ?_⟩)
    rw [cutS_S]
    exact fin0 o3 k3 (.str _) h2
  · have q3' : Qd (.tup (cut _ l u)) μ3 := q3
    obtain ⟨a, vs, rfl, ha, hf, ra⟩ := w3.tup o3
    refine .inl (.inr ⟨a, vs, rfl, ha, fun c => ?_, fun c p ob hp hob => ?_⟩)
    · rw [ra.length] at c
      rw [cut_all c] at q3'
      rcases w3 with w3 | ⟨_, _, _, _, z, _⟩
      · exact fin0 o3 k3 w3 q3'
      · cases z
    · obtain ⟨g1, g2, g3⟩ := newTup o3 (ra.cut l u) hp hob
      exact k3 _ _ _ _ _ g1 g2 g3 q3'
  · have q3' : Qd (.lst (cut _ l u)) μ3 := q3
    obtain ⟨a, vs, rfl, ha, ra⟩ := w3.lst o3
    refine .inr ⟨a, vs, rfl, .inl (.inl ha), fun p hp => ?_⟩
    obtain ⟨g1, g2, g3⟩ := newLst o3 (ra.cut l u) hp
    exact k3 _ _ _ _ _ g1 g2 g3 q3'
  · obtain ⟨a, rfl, ha⟩ := w3.scr o3
    refine .inr ⟨a, _, rfl, ha, fun p hp => ?_⟩
    rw [cutV_cut, cut_map]
    obtain ⟨g1, g2, g3⟩ := newLst o3 (Dts.ofInts (K := X.K) (mg := X.mg) (F := F3) (cut _ l u)) hp
    exact k3 _ _ _ _ _ g1 g2 g3 q3

@[simp] def dNil : TAD := fun _ μ Q => Q [] μ
@[simp] def dCons (a : TED) (t : TAD) : TAD := fun ρ μ Q => a ρ μ fun x μ1 => t ρ μ1 fun xs μ2 => Q (x :: xs) μ2
variable {es : List Expr} {t : TAD}
theorem da_nil : DA X [] dNil := pa_nil.weaken fun σ H Q q => by
  obtain ⟨F, ρ, μ, Qd, R, hd, k⟩ := q
  exact k [] F μ H [] .refl R.ok .nil hd
theorem da_cons (h : DE X e da) (hr : DA X es t) (hs : starEach (e :: es) X.env = (false, eval e X.env) :: starEach es X.env := by rfl) : DA X (e :: es) (dCons da t) := (pa_cons h hr hs).weaken fun σ H Q q => by
  obtain ⟨F, ρ, μ, Qd, R, hd, k⟩ := q
  refine ⟨F, ρ, μ, _, R, hd, fun v F1 μ1 H1 dv e1 o1 w1 q1 => ?_⟩
  exact ⟨F1, ρ, μ1, _, R.ext e1 o1, q1, fun vs F2 μ2 H2 ds e2 o2 w2 q2 => k (v :: vs) F2 μ2 H2 (dv :: ds) (e1.trans e2) o2 (.cons (w1.mono e2.mono) w2) q2⟩
/-- the values only looked at -/
theorem daw_nil : DAW X [] dNil := pa_nil.weaken fun σ H Q q => by
  obtain ⟨F, ρ, μ, Qd, R, hd, k⟩ := q
  exact k [] F μ H [] .refl R.ok .nil hd
theorem Wks.ext {K : PySem.W.Frag} {mg : Str → Option Value} {F F' H H' : Hp} {μ μ' : Sto} (e : Ext F μ H F' μ' H') : ∀ {vs : List V} {ds : List D}, Wks K mg F μ H vs ds → Wks K mg F' μ' H' vs ds
  | _, _, .nil => .nil
  | _, _, .cons h r => .cons (h.ext e) (Wks.ext e r)
theorem daw_cons (h : DW X e da) (hr : DAW X es t) (hs : starEach (e :: es) X.env = (false, eval e X.env) :: starEach es X.env := by rfl) : DAW X (e :: es) (dCons da t) := (pa_cons h hr hs).weaken fun σ H Q q => by
  obtain ⟨F, ρ, μ, Qd, R, hd, k⟩ := q
  refine ⟨F, ρ, μ, _, R, hd, fun v F1 μ1 H1 dv e1 o1 w1 q1 => ?_⟩
  exact ⟨F1, ρ, μ1, _, R.ext e1 o1, q1, fun vs F2 μ2 H2 ds e2 o2 w2 q2 => k (v :: vs) F2 μ2 H2 (dv :: ds) (e1.trans e2) o2 (.cons (w1.ext e2) w2) q2⟩
@[simp] def dTup (t : TAD) : TED := fun ρ μ Q => t ρ μ fun xs μ1 => xs.length ≤ SZ ∧ Q (.tup xs) μ1
@[simp] def dLst (t : TAD) : TED := fun ρ μ Q => t ρ μ fun xs μ1 => xs.length ≤ SZ ∧ Q (.lst xs) μ1
@[simp] def dLstF (t : TAD) : TFD := fun ρ μ Q => t ρ μ fun xs μ1 => xs.length ≤ SZ ∧ Q xs μ1
theorem de_tup {x1} (h : DA X es t) : DE X (.Tuple es x1 pos) (dTup t) := (pe_tupZ h).weaken fun σ H Q q => by
  obtain ⟨F, ρ, μ, Qd, R, hd, k⟩ := q
  refine ⟨F, ρ, μ, _, R, hd, fun vs F1 μ1 H1 ds e1 o1 w1 q1 => ⟨by rw [w1.length, sizeLine_eq]; exact q1.1, fun p ob hp hob => ?_⟩⟩
  obtain ⟨g1, g2, g3⟩ := newTup o1 w1 hp hob
  exact k _ _ _ _ _ (e1.trans g1) g2 g3 q1.2
theorem de_lst (h : DA X es t) : DE X (.List es pos) (dLst t) := (pe_lst h).weaken fun σ H Q q => by
  obtain ⟨F, ρ, μ, Qd, R, hd, k⟩ := q
  refine ⟨F, ρ, μ, _, R, hd, fun vs F1 μ1 H1 ds e1 o1 w1 q1 => ⟨by rw [w1.length, sizeLine_eq]; exact q1.1, fun p hp => ?_⟩⟩
  obtain ⟨g1, g2, g3⟩ := newLst o1 w1 hp
  exact k _ _ _ _ _ (e1.trans g1) g2 g3 q1.2
theorem df_lst (h : DA X es t) : DF X (.List es pos) (dLstF t) := (pe_lst h).weaken fun σ H Q q => by
  obtain ⟨F, ρ, μ, Qd, R, hd, k⟩ := q
  refine ⟨F, ρ, μ, _, R, hd, fun vs F1 μ1 H1 ds e1 o1 w1 q1 => ⟨by rw [w1.length, sizeLine_eq]; exact q1.1, fun p hp => ?_⟩⟩
  obtain ⟨g1, g2⟩ := o1.layN hp (.lst vs)
  obtain ⟨f1, f2⟩ := o1.fresh hp
  have hp0 : H p = none := e1.live p hp
  exact k _ _ _ _ _ _ (e1.trans g2) g1 hp0 f1 f2 upd_same w1 q1.2
end
end DL

namespace DL
open PySem PySem.Spec PyProof.Rows L2
section
variable {K : PySem.W.Frag} {mg : Str → Option Value} {B : Bs} {F F' H H' : Hp} {μ μ' : Sto} {ρ : DEnv} {σ : L2.St}
theorem RelB.step (r : RelB K mg B F ρ μ σ H) (e : Ext F μ H F' μ' H') (o : Ok K mg F' μ' H') : RelB K mg B F' ρ μ' σ H' :=
  ⟨r.rel.ext e o, r.ext.trans e, r.new⟩
theorem RelB.set (r : RelB K mg B F ρ μ σ H) {i : Nat} {v : V} {d : D} (h : Dt K mg F v d) : RelB K mg B F (ρ.set i (some (.val d))) μ (σ.set i (some v)) H := by
  refine ⟨⟨r.rel.ok, by rw [List.length_set, List.length_set]; exact r.rel.len, fun j s e => ?_, fun j l xs ys e1 e2 e3 => ?_⟩, r.ext, fun j xs a e1 e2 => ?_⟩
  · by_cases hj : i = j
    · subst hj
      have hl : i < ρ.length := by
        have := (List.getElem?_eq_some_iff.mp e).1
        rwa [List.length_set] at this
      rw [List.getElem?_set_self hl] at e
      cases e
      exact ⟨v, List.getElem?_set_self (by rw [← r.rel.len]; exact hl), h⟩
    · rw [List.getElem?_set_ne hj] at e
      rw [List.getElem?_set_ne hj]
      exact r.rel.slot j s e
  · have n1 : i ≠ j := fun q => by
      subst q
      rw [List.getElem?_set_self (by have := (List.getElem?_eq_some_iff.mp e1).1; rwa [List.length_set] at this)] at e1
      cases e1
    have n2 : i ≠ l := fun q => by
      subst q
      rw [List.getElem?_set_self (by have := (List.getElem?_eq_some_iff.mp e2).1; rwa [List.length_set] at this)] at e2
      cases e2
    rw [List.getElem?_set_ne n1] at e1 e3
    rw [List.getElem?_set_ne n2] at e2 e3
    exact r.rel.apart j l xs ys e1 e2 e3
  · have n1 : i ≠ j := fun q => by
      subst q
      rw [List.getElem?_set_self (by have := (List.getElem?_eq_some_iff.mp e1).1; rwa [List.length_set] at this)] at e1
      cases e1
    rw [List.getElem?_set_ne n1] at e1 e2
    exact r.new j xs a e1 e2
/-- a slot takes a list that nobody knows -/
theorem RelB.setOwn (r : RelB K mg B F ρ μ σ H) {i : Nat} {p : Addr} {vs : List V} {ds : List D} (hf : F p = none) (hm : μ p = none) (hh : H p = some (.lst vs)) (h : Dts K mg F vs ds) (hb : B.H p = none)
    (hn : ∀ (j : Nat) (xs : List D), i ≠ j → ρ[j]? = some (some (DS.own xs)) → σ[j]? ≠ some (some (.ref p))) : RelB K mg B F (ρ.set i (some (.own ds))) μ (σ.set i (some (.ref p))) H := by
  have len : ∀ {j : Nat} {s : Option DS}, (ρ.set i (some (.own ds)))[j]? = some s → j < ρ.length := fun {j s} e => by
    have := (List.getElem?_eq_some_iff.mp e).1
    rwa [List.length_set] at this
  refine ⟨⟨r.rel.ok, by rw [List.length_set, List.length_set]; exact r.rel.len, fun j s e => ?_, fun j l xs ys e1 e2 e3 => ?_⟩, r.ext, fun j xs a e1 e2 => ?_⟩
  · by_cases hj : i = j
    · subst hj
      have hl := len e
      rw [List.getElem?_set_self hl] at e
      cases e
      exact ⟨_, List.getElem?_set_self (by rw [← r.rel.len]; exact hl), p, vs, rfl, hf, hm, hh, h⟩
    · rw [List.getElem?_set_ne hj] at e
      rw [List.getElem?_set_ne hj]
      exact r.rel.slot j s e
  · by_cases n1 : i = j
    · by_cases n2 : i = l
      · exact n1.symm.trans n2
      · subst n1
        rw [List.getElem?_set_ne n2] at e2 e3
        rw [List.getElem?_set_self (by rw [← r.rel.len]; exact len e1)] at e3
        exact absurd e3.symm (hn l ys n2 e2)
    · by_cases n2 : i = l
      · subst n2
        rw [List.getElem?_set_ne n1] at e1 e3
        rw [List.getElem?_set_self (by rw [← r.rel.len]; exact len e2)] at e3
        exact absurd e3 (hn j xs n1 e1)
      · rw [List.getElem?_set_ne n1] at e1 e3
        rw [List.getElem?_set_ne n2] at e2 e3
        exact r.rel.apart j l xs ys e1 e2 e3
  · by_cases n1 : i = j
    · subst n1
      rw [List.getElem?_set_self (by rw [← r.rel.len]; exact len e1)] at e2
      cases e2
      exact hb
    · rw [List.getElem?_set_ne n1] at e1 e2
      exact r.new j xs a e1 e2
theorem RelB.ownAt (r : RelB K mg B F ρ μ σ H) {i : Nat} {xs : List D} (h : ρ[i]? = some (some (.own xs))) : ∃ p vs, σ[i]? = some (some (.ref p)) ∧ F p = none ∧ μ p = none ∧ H p = some (.lst vs) ∧ Dts K mg F vs xs ∧ B.H p = none := by
  obtain ⟨v, h1, a, vs, rfl, hf, hm, hh, hd⟩ := r.rel.slot i _ h
  exact ⟨a, vs, h1, hf, hm, hh, hd, r.new i xs a h h1⟩
/-- a list of the frame's own is changed -/
theorem RelB.writeOwn (r : RelB K mg B F ρ μ σ H) {i : Nat} {xs ys : List D} {p : Addr} {vs ws : List V} (h : ρ[i]? = some (some (.own xs))) (hs : σ[i]? = some (some (.ref p))) (hf : F p = none) (hm : μ p = none) (hh : H p = some (.lst vs)) (hb : B.H p = none)
    (hd : Dts K mg F ws ys) : RelB K mg B F (ρ.set i (some (.own ys))) μ σ (upd H p (.lst ws)) := by
  have hi : i < ρ.length := (List.getElem?_eq_some_iff.mp h).1
  have other : ∀ (j : Nat) (zs : List D), i ≠ j → ρ[j]? = some (some (DS.own zs)) → σ[j]? ≠ some (some (.ref p)) := fun j zs hj e q => hj (r.rel.apart i j xs zs h e (hs.trans q.symm))
  have ok' := r.rel.ok.writeN hf hm (.lst ws)
  have r' : RelB K mg B F (ρ.set i none) μ σ (upd H p (.lst ws)) := by
    have nn : ∀ {j : Nat} {s : DS}, (ρ.set i none)[j]? = some (some s) → i ≠ j ∧ ρ[j]? = some (some s) := fun {j s} e => by
      by_cases hj : i = j
      · subst hj; rw [List.getElem?_set_self hi] at e; cases e
      · rw [List.getElem?_set_ne hj] at e; exact ⟨hj, e⟩
    refine ⟨⟨ok', by rw [List.length_set]; exact r.rel.len, fun j s e => ?_, fun j l as bs e1 e2 e3 => r.rel.apart j l as bs (nn e1).2 (nn e2).2 e3⟩, ⟨r.ext.mono, fun a o e n => ?_, fun a e => r.ext.live a (upd_live a e)⟩, fun j zs a e1 e2 => r.new j zs a (nn e1).2 e2⟩
    · obtain ⟨hj, e⟩ := nn e
      obtain ⟨v, h1, h2⟩ := r.rel.slot j s e
      refine ⟨v, h1, ?_⟩
      cases s with
      | val d => exact h2
      | own zs =>
        obtain ⟨a, us, rfl, g1, g2, g3, g4⟩ := h2
        have ha : a ≠ p := fun q => other j zs hj e (by rw [h1, q])
        exact ⟨a, us, rfl, g1, g2, by rw [upd_ne ha]; exact g3, g4⟩
    · obtain ⟨g1, g2, g3⟩ := r.ext.keep a o e n
      have ha : a ≠ p := fun q => by subst q; rw [hb] at e; cases e
      exact ⟨by rw [upd_ne ha]; exact g1, g2, g3⟩
  have := r'.setOwn (i := i) (p := p) (ds := ys) hf hm upd_same hd hb (fun j zs hj e => other j zs hj (by rw [List.getElem?_set_ne hj] at e; exact e))
  rw [List.set_set] at this
  have e2 : σ.set i (some (.ref p)) = σ := by
    apply List.ext_getElem?
    intro j
    by_cases hj : i = j
    · subst hj
      rw [List.getElem?_set_self (by rw [← r.rel.len]; exact hi), hs]
    · rw [List.getElem?_set_ne hj]
  rw [e2] at this
  exact this
/-- a list of the frame's own never changes any more -/
theorem RelB.freeze (r : RelB K mg B F ρ μ σ H) {i : Nat} {xs : List D} (h : ρ[i]? = some (some (.own xs))) : ∃ F', FLe F F' ∧ RelB K mg B F' (ρ.set i (some (.val (.lst xs)))) μ σ H ∧ (∃ v, σ[i]? = some (some v) ∧ Dt K mg F' v (.lst xs)) := by
  obtain ⟨p, vs, hs, hf, hm, hh, hd, hb⟩ := r.ownAt h
  have hi : i < ρ.length := (List.getElem?_eq_some_iff.mp h).1
  have ok' := r.rel.ok.freeze hf hm hh
  have mono : ∀ a x, F a = some x → upd F p (.lst vs) a = some x := fun a x e => by rw [upd_ne (ne_of_none e hf)]; exact e
  have dl : Dt K mg (upd F p (.lst vs)) (.ref p) (.lst xs) := .lst upd_same (hd.mono mono)
  refine ⟨upd F p (.lst vs), mono, ?_, _, hs, dl⟩
  have nn : ∀ {j : Nat} {s : DS}, (ρ.set i (some (.val (.lst xs))))[j]? = some (some s) → (i = j ∧ s = .val (.lst xs)) ∨ (i ≠ j ∧ ρ[j]? = some (some s)) := fun {j s} e => by
    by_cases hj : i = j
    · subst hj; rw [List.getElem?_set_self hi] at e; cases e; exact .inl ⟨rfl, rfl⟩
    · rw [List.getElem?_set_ne hj] at e; exact .inr ⟨hj, e⟩
  refine ⟨⟨ok', by rw [List.length_set]; exact r.rel.len, fun j s e => ?_, fun j l as bs e1 e2 e3 => ?_⟩, ⟨fun a x e => mono a x (r.ext.mono a x e), fun a x e n => ?_, r.ext.live⟩, fun j zs a e1 e2 => ?_⟩
  · rcases nn e with ⟨rfl, rfl⟩ | ⟨hj, e⟩
    · exact ⟨_, hs, dl⟩
    · obtain ⟨v, h1, h2⟩ := r.rel.slot j s e
      refine ⟨v, h1, ?_⟩
      cases s with
      | val d => exact Dt.mono mono h2
      | own zs =>
        obtain ⟨a, us, rfl, g1, g2, g3, g4⟩ := h2
        have ha : a ≠ p := fun q => hj (r.rel.apart i j xs zs h e (by rw [hs, h1, q]))
        exact ⟨a, us, rfl, by rw [upd_ne ha]; exact g1, g2, g3, g4.mono mono⟩
  · rcases nn e1 with ⟨_, q⟩ | ⟨_, e1⟩
    · cases q
    · rcases nn e2 with ⟨_, q⟩ | ⟨_, e2⟩
      · cases q
      · exact r.rel.apart j l as bs e1 e2 e3
  · obtain ⟨g1, g2, g3⟩ := r.ext.keep a x e n
    have ha : a ≠ p := fun q => by subst q; rw [hb] at e; cases e
    exact ⟨g1, by rw [upd_ne ha]; exact g2, g3⟩
  · rcases nn e1 with ⟨_, q⟩ | ⟨_, e1⟩
    · cases q
    · exact r.new j zs a e1 e2
end

section
variable {X : Cx} {B : Bs} {st : Stmt} {rest : List Stmt} {t u : TSD} {e : Expr} {d : TED} {pos : Pos}
@[simp] def dNext : TSD := fun D ρ μ => D.nx ρ μ
@[simp] def dSeq (t u : TSD) : TSD := fun D ρ μ => t { D with nx := u D } ρ μ
theorem ds_nil : DSs X B [] dNext := pss_nil.weaken fun D σ H h => by
  obtain ⟨F, ρ, μ, Dd, R, hd, kn, _⟩ := h
  exact kn F ρ μ σ H .rfl' R hd
theorem ds_cons (h1 : DSt X B st t) (h2 : DSs X B rest u) : DSs X B (st :: rest) (dSeq t u) := (pss_cons h1 h2).weaken fun D σ H h => by
  obtain ⟨F, ρ, μ, Dd, R, hd, kn, kb, kc, kr⟩ := h
  exact ⟨F, ρ, μ, { Dd with nx := u Dd }, R, hd, fun F' ρ' μ' σ' H' hF R' q => ⟨F', ρ', μ', Dd, R', q, fun F2 ρ2 μ2 σ2 H2 h2 => kn F2 ρ2 μ2 σ2 H2 (hF.trans h2), fun F2 ρ2 μ2 σ2 H2 h2 => kb F2 ρ2 μ2 σ2 H2 (hF.trans h2), fun F2 ρ2 μ2 σ2 H2 h2 => kc F2 ρ2 μ2 σ2 H2 (hF.trans h2), kr⟩, kb, kc, kr⟩
theorem ds_last (h1 : DSt X B st t) : DSs X B [st] t := pss_one h1
@[simp] def dBreak : TSD := fun D ρ μ => D.bk ρ μ
@[simp] def dCont : TSD := fun D ρ μ => D.ct ρ μ
theorem ds_break : DSt X B (.Break pos) dBreak := ps_break.weaken fun D σ H h => by
  obtain ⟨F, ρ, μ, Dd, R, hd, kn, kb, _⟩ := h
  exact kb F ρ μ σ H .rfl' R hd
/-- ghost: a list of the frame's own never changes any more -/
@[simp] def dFreeze (i : Nat) (t : TSD) : TSD := fun D ρ μ => ∃ xs, ρ[i]? = some (some (.own xs)) ∧ t D (ρ.set i (some (.val (.lst xs)))) μ
theorem ds_freeze (i : Nat) (h1 : DSt X B st t) : DSt X B st (dFreeze i t) := h1.weaken fun D σ H h => by
  obtain ⟨F, ρ, μ, Dd, R, ⟨xs, hx, hd⟩, kn, kb, kc, kr⟩ := h
  obtain ⟨F', hF, R', _⟩ := R.freeze hx
  exact ⟨F', _, μ, Dd, R', hd, fun F2 ρ2 μ2 σ2 H2 h2 => kn F2 ρ2 μ2 σ2 H2 (hF.trans h2), fun F2 ρ2 μ2 σ2 H2 h2 => kb F2 ρ2 μ2 σ2 H2 (hF.trans h2), fun F2 ρ2 μ2 σ2 H2 h2 => kc F2 ρ2 μ2 σ2 H2 (hF.trans h2), kr⟩
@[simp] def dDrop (d : TED) : TSD := fun D ρ μ => d ρ μ fun _ μ1 => D.nx ρ μ1
theorem ds_expr (he : DE X e d) (hs : swapsWith e none pos.line X.env = pure false := by rfl) : DSt X B (.Expr e pos) (dDrop d) := (ps_expr he hs).weaken fun D σ H h => by
  obtain ⟨F, ρ, μ, Dd, R, hd, kn, kb, kc, kr⟩ := h
  exact ⟨F, ρ, μ, _, R.rel, hd, fun v F' μ' H' dv e o w q => kn F' ρ μ' σ H' e.mono (R.step e o) q⟩
@[simp] def dRet (d : TED) : TSD := fun D ρ μ => d ρ μ D.rt
theorem ds_ret (he : DE X e d) : DSt X B (.Return (some e) pos) (dRet d) := (ps_ret he).weaken fun D σ H h => by
  obtain ⟨F, ρ, μ, Dd, R, hd, kn, kb, kc, kr⟩ := h
  exact ⟨F, ρ, μ, _, R.rel, hd, fun v F' μ' H' dv e o w q => kr v F' μ' H' dv (R.ext.trans e) o w q⟩
/-- return x, x perhaps a list of the frame's own -/
theorem ds_retName {i : Nat} {x : Str} {p : Pos} (h : PE X (.Name x p) (tVar i)) : DSt X B (.Return (some (.Name x p)) pos) (dRet (dLook i)) := (ps_ret h).weaken fun D σ H h => by
  obtain ⟨F, ρ, μ, Dd, R, hd, kn, kb, kc, kr⟩ := h
  have hd' : dLook i ρ μ Dd.rt := hd
  cases e : ρ[i]? with
  | none => simp [dLook, e] at hd'
  | some o =>
    cases o with
    | none => simp [dLook, e] at hd'
    | some s =>
      cases s with
      | val d =>
        obtain ⟨v, h1, h2⟩ := R.rel.slot i _ e
        exact ⟨v, h1, kr v F μ H d R.ext R.rel.ok h2 (by simpa [dLook, e] using hd')⟩
      | own xs =>
        obtain ⟨F', _, R', v, h1, h2⟩ := R.freeze e
        exact ⟨v, h1, kr v F' μ H _ R'.ext R'.rel.ok h2 (by simpa [dLook, e] using hd')⟩
@[simp] def dIfS (c : TTD) (t u : TSD) : TSD := fun D ρ μ => c ρ μ fun b μ1 => if b = true then t D ρ μ1 else u D ρ μ1
theorem ds_if {c : Expr} {a b : List Stmt} {tc : TTD} (hc : DT X c tc) (ha : DSs X B a t) (hb : DSs X B b u) : DSt X B (.If c a b pos) (dIfS tc t u) := (ps_if hc ha hb).weaken fun D σ H h => by
  obtain ⟨F, ρ, μ, Dd, R, hd, kn, kb, kc, kr⟩ := h
  refine ⟨F, ρ, μ, _, R.rel, hd, fun b F' μ' H' e o q => ?_⟩
  cases b with
  | true => exact ⟨F', ρ, μ', Dd, R.step e o, q, fun F2 ρ2 μ2 σ2 H2 h2 => kn F2 ρ2 μ2 σ2 H2 (FLe.trans e.mono h2), fun F2 ρ2 μ2 σ2 H2 h2 => kb F2 ρ2 μ2 σ2 H2 (FLe.trans e.mono h2), fun F2 ρ2 μ2 σ2 H2 h2 => kc F2 ρ2 μ2 σ2 H2 (FLe.trans e.mono h2), kr⟩
  | false => exact ⟨F', ρ, μ', Dd, R.step e o, q, fun F2 ρ2 μ2 σ2 H2 h2 => kn F2 ρ2 μ2 σ2 H2 (FLe.trans e.mono h2), fun F2 ρ2 μ2 σ2 H2 h2 => kb F2 ρ2 μ2 σ2 H2 (FLe.trans e.mono h2), fun F2 ρ2 μ2 σ2 H2 h2 => kc F2 ρ2 μ2 σ2 H2 (FLe.trans e.mono h2), kr⟩

abbrev TGD := D → DEnv → (DEnv → Prop) → Prop
abbrev TGDs := List D → DEnv → (DEnv → Prop) → Prop
/-- ns: the slots that it may store to -/
def liftG (K : PySem.W.Frag) (mg : Str → Option Value) (B : Bs) (ns : List Nat) (g : TGD) : TG := fun v σ H Q => ∃ F ρ μ dv Qd, RelB K mg B F ρ μ σ H ∧ Dt K mg F v dv ∧ g dv ρ Qd ∧
  ∀ ρ' σ', RelB K mg B F ρ' μ σ' H → σ'.length = σ.length → (∀ j, j ∉ ns → σ'[j]? = σ[j]?) → Qd ρ' → Q σ' H
def liftGs (K : PySem.W.Frag) (mg : Str → Option Value) (B : Bs) (ns : List Nat) (g : TGDs) : TGs := fun vs σ H Q => ∃ F ρ μ ds Qd, RelB K mg B F ρ μ σ H ∧ Dts K mg F vs ds ∧ g ds ρ Qd ∧
  ∀ ρ' σ', RelB K mg B F ρ' μ σ' H → σ'.length = σ.length → (∀ j, j ∉ ns → σ'[j]? = σ[j]?) → Qd ρ' → Q σ' H
abbrev DG (X : Cx) (B : Bs) (tg : Expr) (ns : List Nat) (g : TGD) : Prop := PG X tg (liftG X.K X.mg B ns g)
abbrev DGs (X : Cx) (B : Bs) (ts : List Expr) (ns : List Nat) (g : TGDs) : Prop := PGs X ts (liftGs X.K X.mg B ns g)
theorem _root_.L2.PG.weaken {X : Cx} {e : Expr} {t t' : TG} (h : PG X e t) (w : ∀ v σ H Q, t' v σ H Q → t v σ H Q) : PG X e t' := ⟨fun pins s σ H v u Q I r q => h.run pins s σ H v u Q I r (w v σ H Q q)⟩
theorem _root_.L2.PGs.weaken {X : Cx} {e : List Expr} {t t' : TGs} (h : PGs X e t) (w : ∀ v σ H Q, t' v σ H Q → t v σ H Q) : PGs X e t' := ⟨fun pins s σ H v u Q I r q => h.run pins s σ H v u Q I r (w v σ H Q q)⟩
@[simp] def dName (i : Nat) : TGD := fun d ρ Q => Q (ρ.set i (some (.val d)))
theorem dg_name {i : Nat} {x : Str} (h : PG X (.Name x pos) (gName i)) : DG X B (.Name x pos) [i] (dName i) := h.weaken fun v σ H Q q => by
  obtain ⟨F, ρ, μ, dv, Qd, R, w, hd, k⟩ := q
  exact k _ _ (R.set w) (by rw [List.length_set]) (fun j hj => List.getElem?_set_ne fun z => hj (by simp [z])) hd
@[simp] def gdNil : TGDs
  | [], ρ, Q => Q ρ
  | _ :: _, _, _ => False
@[simp] def gdCons (g : TGD) (gs : TGDs) : TGDs
  | d :: r, ρ, Q => g d ρ fun ρ1 => gs r ρ1 Q
  | [], _, _ => False
theorem dgs_nil : DGs X B [] [] gdNil := pgs_nil.weaken fun vs σ H Q q => by
  obtain ⟨F, ρ, μ, ds, Qd, R, w, hd, k⟩ := q
  cases w with
  | nil => exact ⟨rfl, k ρ σ R rfl (fun _ _ => rfl) hd⟩
  | cons => exact hd.elim
theorem dgs_cons {es : List Expr} {n1 n2 : List Nat} {g : TGD} {gs : TGDs} (h1 : DG X B e n1 g) (h2 : DGs X B es n2 gs) (hs : (assignEach (e :: es) X.env).map (·.2) = assign e X.env :: (assignEach es X.env).map (·.2) := by rfl) :
    DGs X B (e :: es) (n1 ++ n2) (gdCons g gs) := (pgs_cons h1 h2 hs).weaken fun vs σ H Q q => by
  obtain ⟨F, ρ, μ, ds, Qd, R, w, hd, k⟩ := q
  cases w with
  | nil => exact hd.elim
  | cons wv ws =>
    refine ⟨_, _, rfl, F, ρ, μ, _, _, R, wv, hd, fun ρ1 σ1 R1 l1 f1 q1 => ?_⟩
    exact ⟨F, ρ1, μ, _, Qd, R1, ws, q1, fun ρ2 σ2 R2 l2 f2 q2 => k ρ2 σ2 R2 (l2.trans l1) (fun j hj => by
      rw [List.mem_append, not_or] at hj
      rw [f2 j hj.2, f1 j hj.1]) q2⟩
/-- (a, b, ..) = a tuple, a list of that length -/
@[simp] def dUnp (n : Nat) (gs : TGDs) : TGD
  | .tup ds, ρ, Q => ds.length = n ∧ gs ds ρ Q
  | .pr a b, ρ, Q => n = 2 ∧ gs [a, b] ρ Q
  | _, _, _ => False
@[simp] def dUnl (n : Nat) (gs : TGDs) : TGD
  | .lst ds, ρ, Q => ds.length = n ∧ gs ds ρ Q
  | _, _, _ => False
theorem dg_tup {es : List Expr} {k : Nat} {ns : List Nat} {gs : TGDs} {n : Nat} (hc : X.calm = true) (h : DGs X B es ns gs)
    (hn : (assignEach es X.env).length = n := by rfl) (hst : (assignEach es X.env).findIdx? (·.1) = none := by rfl) : DG X B (.Tuple es k pos) ns (dUnp n gs) := (pg_tup hc h hn hst).weaken fun v σ H Q q => by
  obtain ⟨F, ρ, μ, dv, Qd, R, w, hd, k⟩ := q
  cases dv <;> first | exact hd.elim | skip
  · obtain ⟨h1, h2⟩ := hd
    obtain ⟨a, vs, rfl, ha, hf, ra⟩ := Wk.tup R.rel.ok (μ := μ) (.inl w)
    exact ⟨a, vs, rfl, ha, ra.length.trans h1, F, ρ, μ, _, Qd, R, ra, h2, k⟩
  · obtain ⟨h1, h2⟩ := hd
    cases w with
    | pr hf r r2 => exact ⟨_, _, rfl, .inl (.inl (R.rel.ok.sub _ _ hf)), h1.symm, F, ρ, μ, _, Qd, R, .cons r (.cons r2 .nil), h2, k⟩
@[simp] def dAsg (d : TED) (g : TGD) : TSD := fun D ρ μ => d ρ μ fun x μ1 => g x ρ fun ρ1 => D.nx ρ1 μ1
theorem ds_asg {tg : Expr} {ns : List Nat} {g : TGD} (he : DE X e d) (hg : DG X B tg ns g) (hs : swapsWithSole [tg] e pos.line X.env = pure false := by rfl) (hw : swappedStores [tg] e X.env = pure none := by rfl)
    (h1 : (assignEach [tg] X.env).map (·.2) = [assign tg X.env] := by rfl) : DSt X B (.Assign [tg] e pos) (dAsg d g) := (ps_asg he hg hs hw h1).weaken fun D σ H h => by
  obtain ⟨F, ρ, μ, Dd, R, hd, kn, kb, kc, kr⟩ := h
  refine ⟨F, ρ, μ, _, R.rel, hd, fun v F' μ' H' dv e o w q => ?_⟩
  exact ⟨F', ρ, μ', dv, _, R.step e o, w, q, fun ρ1 σ1 R1 _ _ q1 => kn F' ρ1 μ' σ1 H' e.mono R1 q1⟩
@[simp] def dSet (i : Nat) (d : TED) : TSD := fun D ρ μ => d ρ μ fun x μ1 => D.nx (ρ.set i (some (.val x))) μ1
/-- x = a new list, x's own -/
@[simp] def dSetF (i : Nat) (d : TFD) : TSD := fun D ρ μ => d ρ μ fun xs μ1 => D.nx (ρ.set i (some (.own xs))) μ1
/-- x op= e -/
@[simp] def dAug (i : Nat) (r : RD2) (d : TED) : TSD := fun D ρ μ => ∃ x, ρ[i]? = some (some (.val x)) ∧ d ρ μ fun y μ1 => r x y μ1 fun z μ2 => D.nx (ρ.set i (some (.val z))) μ2
@[simp] def dApp (i : Nat) (d : TED) : TSD := fun E ρ μ => ∃ xs, ρ[i]? = some (some (.own xs)) ∧ d ρ μ fun y μ1 => xs.length < SZ ∧ E.nx (ρ.set i (some (.own (xs ++ [y])))) μ1
theorem ds_app {i : Nat} {x : Str} {p apos cpos : Pos} (h : ∀ t, PA X [e] t → PS X (.Expr (.Call (.Attribute (.Name x p) "append" apos) [e] [] cpos) pos) (tDrop (tBM X.K "list" rAppend (tVar i) t)))
    (he : DE X e d) (hs : starEach [e] X.env = (false, eval e X.env) :: starEach [] X.env := by rfl) : DSt X B (.Expr (.Call (.Attribute (.Name x p) "append" apos) [e] [] cpos) pos) (dApp i d) := (h _ (pa_cons he pa_nil hs)).weaken fun D σ H h => by
  obtain ⟨F, ρ, μ, Dd, R, ⟨xs, hx, hd⟩, kn, kb, kc, kr⟩ := h
  obtain ⟨q, vs, hs, hf, hm, hh, hds, hb⟩ := R.ownAt hx
  refine ⟨.ref q, hs, .inl ⟨rfl, _, .inl (.inl hh)⟩, F, ρ, μ, _, R.rel, hd, fun v F' μ' H' dv e o w hq => ?_⟩
  obtain ⟨h1, h2, h3⟩ := e.keep q _ hh hm
  refine ⟨q, vs, v, rfl, rfl, h1, by rw [hds.length, sizeLine_eq]; exact hq.1, ?_⟩
  exact kn F' _ μ' σ _ e.mono ((R.step e o).writeOwn hx hs (h2.trans hf) h3 h1 hb ((hds.mono e.mono).append (.one w))) hq.2
/-- x.extend(e) -/
@[simp] def dExt (i : Nat) (d : TED) : TSD := fun E ρ μ => ∃ xs, ρ[i]? = some (some (.own xs)) ∧ d ρ μ fun y μ1 => ∃ ys, y = .lst ys ∧ xs.length + ys.length ≤ SZ ∧ E.nx (ρ.set i (some (.own (xs ++ ys)))) μ1
theorem ds_ext {i : Nat} {x : Str} {p apos cpos : Pos} (h : ∀ t, PA X [e] t → PS X (.Expr (.Call (.Attribute (.Name x p) "extend" apos) [e] [] cpos) pos) (tDrop (tBM X.K "list" rExtend (tVar i) t)))
    (he : DE X e d) (hs : starEach [e] X.env = (false, eval e X.env) :: starEach [] X.env := by rfl) : DSt X B (.Expr (.Call (.Attribute (.Name x p) "extend" apos) [e] [] cpos) pos) (dExt i d) := (h _ (pa_cons he pa_nil hs)).weaken fun D σ H h => by
  obtain ⟨F, ρ, μ, Dd, R, ⟨xs, hx, hd⟩, kn, kb, kc, kr⟩ := h
  obtain ⟨q, vs, hs, hf, hm, hh, hds, hb⟩ := R.ownAt hx
  refine ⟨.ref q, hs, .inl ⟨rfl, _, .inl (.inl hh)⟩, F, ρ, μ, _, R.rel, hd, fun v F' μ' H' dv e o w hq => ?_⟩
  obtain ⟨ys, rfl, hl, hq⟩ := hq
  obtain ⟨h1, h2, h3⟩ := e.keep q _ hh hm
  obtain ⟨b, ws, rfl, hb', rb⟩ := Wk.lst o (μ := μ') (.inl w)
  refine ⟨q, b, vs, ws, rfl, rfl, h1, hb', by rw [hds.length, rb.length, sizeLine_eq]; exact hl, ?_⟩
  exact kn F' _ μ' σ _ e.mono ((R.step e o).writeOwn hx hs (h2.trans hf) h3 h1 hb ((hds.mono e.mono).append rb)) hq

/-- what a loop walks: the items, and what must stay true of what may change -/
abbrev TSrc := DEnv → Sto → (List D → (Sto → Prop) → Sto → Prop) → Prop
abbrev still : Sto → Prop := fun _ => True
/-- the iterator J yields the items -/
def ItD (K : PySem.W.Frag) (mg : Str → Option Value) (F : Hp) (J : It) (items : List D) (inv : Sto → Prop) : Prop :=
  ∀ (F1 : Hp) (μ1 : Sto) (H1 : Hp), (∀ a o, F a = some o → F1 a = some o) → Ok K mg F1 μ1 H1 → inv μ1 → ∀ i : Nat,
    (i < items.length → J.go i H1 ∧ ∀ x H2, J.yld i H1 x H2 → ∃ F2 d, Ext F1 μ1 H1 F2 μ1 H2 ∧ Ok K mg F2 μ1 H2 ∧ items[i]? = some d ∧ Dt K mg F2 x d) ∧
    (i = items.length → J.stop i H1)
def liftI (K : PySem.W.Frag) (mg : Str → Option Value) (d : TSrc) : TI := fun σ H R => ∃ F ρ μ Qd, Rel K mg F ρ μ σ H ∧ d ρ μ Qd ∧ ∀ J F' μ' H' items inv, Ext F μ H F' μ' H' → Ok K mg F' μ' H' → ItD K mg F' J items inv → Qd items inv μ' → R J H'
abbrev DI (X : Cx) (tg e : Expr) (d : TSrc) : Prop := PI X tg e (liftI X.K X.mg d)
theorem _root_.L2.PI.weaken {X : Cx} {tg e : Expr} {t t' : TI} (h : PI X tg e t) (w : ∀ σ H Q, t' σ H Q → t σ H Q) : PI X tg e t' := ⟨fun pins s σ H Q I q => h.run pins s σ H Q I (w σ H Q q)⟩
@[simp] def forD (g : TGD) (body : TSD) (E : DEnds) (inv : Sto → Prop) : List D → DEnv → Sto → Prop
  | [], ρ, μ => inv μ ∧ E.nx ρ μ
  | x :: xs, ρ, μ => inv μ ∧ g x ρ fun ρ1 => body { E with nx := forD g body E inv xs, ct := forD g body E inv xs, bk := E.nx } ρ1 μ
@[simp] def dFor (src : TSrc) (g : TGD) (body : TSD) : TSD := fun E ρ μ => src ρ μ fun items inv μ1 => forD g body E inv items ρ μ1
theorem ds_for {tg iter : Expr} {body : List Stmt} {src : TSrc} {ns : List Nat} {g : TGD} {tb : TSD} (hp : PassesOwn (model X.prog X.w) X.A X.env X.xe) (hc : X.calm = true) (hi : DI X tg iter src) (hg : DG X B tg ns g) (hb : DSs X B body tb)
    (hs : ∀ x, foldedSetIterable iter X.env x = pure x := by intro _; rfl) : DSt X B (.For tg iter body [] pos) (dFor src g tb) := (ps_for hp hc hi hg hb hs).weaken fun D σ H h => by
  obtain ⟨F, ρ, μ, Dd, R, hd, kn, kb, kc, kr⟩ := h
  refine ⟨F, ρ, μ, _, R.rel, hd, fun J F0 μ0 H0 items inv e0 o0 it q0 => ?_⟩
  refine ⟨fun i m σ1 H1 => ∃ F1 ρ1 μ1, m = items.length - i ∧ i ≤ items.length ∧ (∀ a o, F0 a = some o → F1 a = some o) ∧ RelB X.K X.mg B F1 ρ1 μ1 σ1 H1 ∧ forD g tb Dd inv (items.drop i) ρ1 μ1,
    ⟨items.length, F0, ρ, μ0, by simp, Nat.zero_le _, fun _ _ z => z, R.step e0 o0, by simpa using q0⟩, ?_⟩
  rintro i m σ1 H1 ⟨F1, ρ1, μ1, rfl, hi, hF, R1, q1⟩
  have hinv : inv μ1 := by
    cases hz : items.drop i with
    | nil => rw [hz] at q1; exact q1.1
    | cons x xs => rw [hz] at q1; exact q1.1
  obtain ⟨hgo, hstop⟩ := it F1 μ1 H1 hF R1.rel.ok hinv i
  by_cases hlt : i < items.length
  · obtain ⟨g1, g2⟩ := hgo hlt
    refine .inr ⟨g1, fun σ' H' => ∃ F' ρ' μ', (∀ a o, F0 a = some o → F' a = some o) ∧ RelB X.K X.mg B F' ρ' μ' σ' H' ∧ forD g tb Dd inv (items.drop (i + 1)) ρ' μ', fun σ' H' ⟨F', ρ', μ', a1, a2, a3⟩ => ⟨items.length - (i + 1), by omega, F', ρ', μ', rfl, hlt, a1, a2, a3⟩, fun x H2 hy => ?_⟩
    obtain ⟨F2, d, e2, o2, hx, wx⟩ := g2 x H2 hy
    have hdrop : items.drop i = d :: items.drop (i + 1) := by
      have hd := List.drop_eq_getElem_cons hlt
      rw [List.getElem?_eq_getElem hlt] at hx
      cases hx
      exact hd
    rw [hdrop] at q1
    refine ⟨F2, ρ1, μ1, d, _, R1.step e2 o2, wx, q1.2, fun ρ3 σ3 R3 _ _ q3 => ?_⟩
    have hF2 : FLe F0 F2 := fun a o z => e2.mono a o (hF a o z)
    have hF2' : FLe F F2 := fun a o z => hF2 a o (e0.mono a o z)
    exact ⟨F2, ρ3, μ1, _, R3, q3, fun F4 ρ4 μ4 σ4 H4 h4 R4 q4 => ⟨F4, ρ4, μ4, hF2.trans h4, R4, q4⟩, fun F4 ρ4 μ4 σ4 H4 h4 R4 q4 => kn F4 ρ4 μ4 σ4 H4 (hF2'.trans h4) R4 q4, fun F4 ρ4 μ4 σ4 H4 h4 R4 q4 => ⟨F4, ρ4, μ4, hF2.trans h4, R4, q4⟩, kr⟩
  · have : i = items.length := by omega
    subst this
    refine .inl ⟨hstop rfl, ?_⟩
    rw [List.drop_length] at q1
    exact kn F1 ρ1 μ1 σ1 H1 (fun a o z => hF a o (e0.mono a o z)) R1 q1.2
end
end DL

namespace DL
open PySem PySem.Spec PyProof.Rows L2
section
variable {K : PySem.W.Frag} {mg : Str → Option Value} {F : Hp}
theorem itd_list {a : Addr} {vs : List V} {ds : List D} (h : F a = some (.lst vs)) (r : Dts K mg F vs ds) : ItD K mg F (Itl K a) ds still := by
  intro F1 μ1 H1 hF o1 _ i
  have ha : SqL K H1 a vs := .inl (.inl (o1.sub _ _ (hF _ _ h)))
  refine ⟨fun hi => ⟨⟨vs, vs[i]'(by rw [r.length]; exact hi), ha, List.getElem?_eq_getElem _⟩, fun x H2 hy => ?_⟩, fun e => ⟨vs, ha, by rw [r.length, e]; exact Nat.le_refl _⟩⟩
  obtain ⟨rfl, hx⟩ := hy
  obtain ⟨d, hd, w⟩ := r.getV (hx vs ha)
  exact ⟨F1, d, .refl, o1, hd, w.mono hF⟩
/-- a list that changes, as long as it does not -/
theorem itd_ref (a : Addr) (ds : List D) : ItD K mg F (Itl K a) ds (fun μ => μ a = some (.lst ds)) := by
  intro F1 μ1 H1 hF o1 hi i
  obtain ⟨vs, h, r⟩ := o1.sto _ _ hi
  have ha : SqL K H1 a vs := .inl (.inl h)
  refine ⟨fun hi => ⟨⟨vs, vs[i]'(by rw [r.length]; exact hi), ha, List.getElem?_eq_getElem _⟩, fun x H2 hy => ?_⟩, fun e => ⟨vs, ha, by rw [r.length, e]; exact Nat.le_refl _⟩⟩
  obtain ⟨rfl, hx⟩ := hy
  obtain ⟨d, hd, w⟩ := r.getV (hx vs ha)
  exact ⟨F1, d, .refl, o1, hd, w⟩
theorem itd_scr {a : Addr} {ns : List Int} (h : SqL K F a (ns.map V.int)) : ItD K mg F (Itl K a) (ns.map D.int) still := by
  intro F1 μ1 H1 hF o1 _ i
  have ha : SqL K H1 a (ns.map V.int) := SqL.mono' (fun b u z => o1.sub _ _ (hF _ _ z)) h
  refine ⟨fun hi => ⟨⟨_, (ns.map V.int)[i]'(by simpa using hi), ha, List.getElem?_eq_getElem _⟩, fun x H2 hy => ?_⟩, fun e => ⟨_, ha, by simp [e]⟩⟩
  obtain ⟨rfl, hx⟩ := hy
  obtain ⟨d, hd, w⟩ := (Dts.ofInts (K := K) (mg := mg) (F := F1) ns).getV (hx _ ha)
  exact ⟨F1, d, .refl, o1, hd, w⟩
theorem itd_tup {a : Addr} {vs : List V} {ds : List D} (h : SqT K F a vs) (r : Dts K mg F vs ds) : ItD K mg F (Itt K a) ds still := by
  intro F1 μ1 H1 hF o1 _ i
  have ha : SqT K H1 a vs := SqT.mono' (fun b u z => o1.sub _ _ (hF _ _ z)) h
  refine ⟨fun hi => ⟨⟨vs, vs[i]'(by rw [r.length]; exact hi), ha, List.getElem?_eq_getElem _⟩, fun x H2 hy => ?_⟩, fun e => ⟨vs, ha, by rw [r.length, e]; exact Nat.le_refl _⟩⟩
  obtain ⟨rfl, hx⟩ := hy
  obtain ⟨d, hd, w⟩ := r.getV (hx vs ha)
  exact ⟨F1, d, .refl, o1, hd, w.mono hF⟩
def rngD (lo : Int) (n : Nat) : List D := (List.range n).map fun i => .int (lo + (i : Nat))
theorem itd_rng (lo : Int) (n : Nat) : ItD K mg F (Itr lo n) (rngD lo n) still := by
  intro F1 μ1 H1 hF o1 _ i
  unfold rngD
  refine ⟨fun hi => ⟨by show i < n; simpa using hi, fun x H2 hy => ?_⟩, fun e => by
    have e' : i = n := by simpa using e
    exact Nat.le_of_eq e'.symm⟩
  obtain ⟨rfl, rfl⟩ := hy
  have hi' : i < n := by simpa using hi
  refine ⟨F1, .int (lo + i), .refl, o1, ?_, .int _⟩
  rw [List.getElem?_map, List.getElem?_range hi']
  rfl
def strD (s : List Nat) : List D := s.map fun c => .str [c]
theorem itd_str (s : List Nat) : ItD K mg F (Its (S s)) (strD s) still := by
  intro F1 μ1 H1 hF o1 _ i
  have hs : (S s).cps.size = s.length := S_len s
  unfold strD
  refine ⟨fun hi => ⟨?_, fun x H2 hy => ?_⟩, fun e => ?_⟩
  · show i < (S s).cps.size
    rw [hs]; simpa using hi
  · obtain ⟨rfl, c, hc, rfl⟩ := hy
    refine ⟨F1, .str [c], .refl, o1, ?_, .str [c]⟩
    have hc' : s[i]? = some c := by simpa using hc
    rw [List.getElem?_map, hc']
    rfl
  · show (S s).cps.size ≤ i
    rw [hs]; simp at e; omega
end
section
variable {X : Cx} {tg : Expr} {e : Expr} {es : List Expr} {d : TED} {t : TAD} {p pos : Pos}
/-- the items of a list, a tuple, a text, the script -/
@[simp] def dEach (d : TED) : TSrc := fun ρ μ Q => d ρ μ fun x μ1 => match x with
  | .lst xs => Q xs still μ1
  | .tup xs => Q xs still μ1
  | .str s => Q (strD s) still μ1
  | .scr ns => Q (ns.map D.int) still μ1
  | .ref a => ∃ xs, μ1 a = some (.lst xs) ∧ Q xs (fun μ => μ a = some (.lst xs)) μ1
  | _ => False
def iAny (K : PySem.W.Frag) (te : TE) : TI := fun σ H R => te σ H fun x H1 => (∃ a, x = .ref a ∧ (∃ xs, SqL K H1 a xs) ∧ R (Itl K a) H1) ∨ (∃ a, x = .ref a ∧ (∃ xs, SqT K H1 a xs) ∧ R (Itt K a) H1) ∨ (∃ z, x = .str z ∧ R (Its z) H1)
theorem pi_any {l : Expr} {tl : TE} (hl : PE X l tl) : PI X tg l (iAny X.K tl) := by
  refine ⟨fun pins s σ H R I h => ?_⟩
  refine thn (hl.run pins s σ H _ I h) fun v s1 ⟨x, H1, I1, r1, q1⟩ => ?_
  rcases q1 with ⟨a, rfl, ⟨xs, hq⟩, q⟩ | ⟨a, rfl, ⟨xs, hq⟩, q⟩ | ⟨z, rfl, q⟩
  · cases r1
    obtain ⟨its, _, pl, _⟩ := I1.list hq
    exact wpAny_pyIter_list pl.isList (pi_one (tk := s1.toks) I1 _ (turn_list a _) ⟨_, Heap.get?_push_size _ rfl, rfl, rfl⟩ q)
  · cases r1
    obtain ⟨its, _, tp, _⟩ := I1.tuple hq
    exact wpAny_pyIter_tuple tp (pi_one (tk := s1.toks) I1 _ (turn_tuple a _) ⟨_, Heap.get?_push_size _ rfl, rfl, rfl⟩ q)
  · obtain ⟨t, rfl⟩ := r1
    cases ha : z.cps.all (· < 128)
    · exact wpAny_pyIter_wide ha (pi_one (tk := s1.toks) I1 _ (turn_str _ z t "str_iterator" (.inr rfl)) ⟨_, Heap.get?_push_size _ rfl, rfl, rfl⟩ q)
    · exact wpAny_pyIter_ascii ha (pi_one (tk := s1.toks) I1 _ (turn_str _ z t "str_ascii_iterator" (.inl rfl)) ⟨_, Heap.get?_push_size _ rfl, rfl, rfl⟩ q)
theorem di_each (h : DE X e d) : DI X tg e (dEach d) := (pi_any h).weaken fun σ H R q => by
  obtain ⟨F, ρ, μ, Qd, Rl, hd, k⟩ := q
  refine ⟨F, ρ, μ, _, Rl, hd, fun v F' μ' H' dv e o w q => ?_⟩
  cases dv <;> first | exact q.elim | skip
  · cases w
    exact .inr (.inr ⟨_, rfl, k _ F' μ' H' _ _ e o (itd_str _) q⟩)
  · cases w with
    | tup h r => exact .inr (.inl ⟨_, rfl, ⟨_, SqT.sub o h.sq⟩, k _ F' μ' H' _ _ e o (itd_tup h.sq r) q⟩)
  · cases w with
    | lst h r => exact .inl ⟨_, rfl, ⟨_, .inl (.inl (o.sub _ _ h))⟩, k _ F' μ' H' _ _ e o (itd_list h r) q⟩
  · cases w with
    | scr h => exact .inl ⟨_, rfl, ⟨_, SqL.mono' o.sub h⟩, k _ F' μ' H' _ _ e o (itd_scr h) q⟩
  · cases w
    obtain ⟨xs, hx, q⟩ := q
    obtain ⟨vs, ha, r⟩ := o.sto _ _ hx
    exact .inl ⟨_, rfl, ⟨_, .inl (.inl ha)⟩, k _ F' μ' H' _ _ e o (itd_ref _ _) q⟩
def rngOk (i : Int) : Prop := -4611686018427387904 ≤ i ∧ i < 4611686018427387904
@[simp] def dRng1 (t : TAD) : TSrc := fun ρ μ Q => t ρ μ fun xs μ1 => match xs with
  | [.int j] => rngOk j ∧ Q (rngD 0 j.toNat) still μ1
  | _ => False
@[simp] def dRng2 (t : TAD) : TSrc := fun ρ μ Q => t ρ μ fun xs μ1 => match xs with
  | [.int i, .int j] => rngOk i ∧ rngOk j ∧ Q (rngD i (j - i).toNat) still μ1
  | _ => False
theorem di_rng1 (hg : Gl X "range") (hm : X.mg "range" = none) (h : DA X [e] t) (hs : starEach [e] X.env = [(false, eval e X.env)] := by rfl) : DI X tg (.Call (.Name "range" p) [e] [] pos) (dRng1 t) := (pi_range1 hg hm h hs).weaken fun σ H R q => by
  obtain ⟨F, ρ, μ, Qd, Rl, hd, k⟩ := q
  refine ⟨F, ρ, μ, _, Rl, hd, fun vs F' μ' H' ds e o w q => ?_⟩
  split at q
  · cases w with
    | cons h r =>
      cases r
      cases h
      exact ⟨_, rfl, q.1.1, q.1.2, k _ F' μ' H' _ _ e o (itd_rng _ _) q.2⟩
  · exact q.elim
theorem di_rng2 {e2 : Expr} (hg : Gl X "range") (hm : X.mg "range" = none) (h : DA X [e, e2] t) (hs : starEach [e, e2] X.env = [(false, eval e X.env), (false, eval e2 X.env)] := by rfl) (hs2 : starEach [e2] X.env = [(false, eval e2 X.env)] := by rfl) :
    DI X tg (.Call (.Name "range" p) [e, e2] [] pos) (dRng2 t) := (pi_range2 hg hm h hs hs2).weaken fun σ H R q => by
  obtain ⟨F, ρ, μ, Qd, Rl, hd, k⟩ := q
  refine ⟨F, ρ, μ, _, Rl, hd, fun vs F' μ' H' ds e o w q => ?_⟩
  split at q
  · cases w with
    | cons h r =>
      cases r with
      | cons h' r =>
        cases r
        cases h
        cases h'
        exact ⟨_, _, rfl, ⟨q.1.1, q.1.2, q.2.1.1, q.2.1.2⟩, k _ F' μ' H' _ _ e o (itd_rng _ _) q.2.2⟩
  · exact q.elim
def enumD (k : Nat) : List D → List D
  | [] => []
  | x :: xs => .pr (.int k) x :: enumD (k + 1) xs
/-- enumerate of a list -/
@[simp] def dEnum (t : TAD) : TSrc := fun ρ μ Q => t ρ μ fun xs μ1 => match xs with
  | [.lst ds] => Q (enumD 0 ds) still μ1
  | [.ref a] => ∃ ds, μ1 a = some (.lst ds) ∧ Q (enumD 0 ds) (fun μ => μ a = some (.lst ds)) μ1
  | _ => False
/-- by what holds ahead of each turn, and a number that falls -/
def dWhile (c : TTD) (body : TSD) : TSD := fun E ρ μ => ∃ W : Nat → DEnv → Sto → Prop, (∃ m, W m ρ μ) ∧ ∀ m ρ μ, W m ρ μ →
  c ρ μ fun b μ1 => if b = true then ∃ N : DEnv → Sto → Prop, (∀ ρ' μ', N ρ' μ' → ∃ m', m' < m ∧ W m' ρ' μ') ∧ body { E with nx := N, ct := N, bk := E.nx } ρ μ1 else E.nx ρ μ1
theorem ds_while {B : Bs} {c : Expr} {body : List Stmt} {tc : TTD} {tb : TSD} (hp : PassesOwn (model X.prog X.w) X.A X.env X.xe) (hc : DT X c tc) (hb : DSs X B body tb) : DSt X B (.While c body [] pos) (dWhile tc tb) := (ps_while hp hc hb).weaken fun D σ H h => by
  obtain ⟨F, ρ, μ, Dd, R, ⟨W, ⟨m0, w0⟩, turn⟩, kn, kb, kc, kr⟩ := h
  refine ⟨fun m σ1 H1 => ∃ F1 ρ1 μ1, FLe F F1 ∧ RelB X.K X.mg B F1 ρ1 μ1 σ1 H1 ∧ W m ρ1 μ1, ⟨m0, F, ρ, μ, .rfl', R, w0⟩, ?_⟩
  rintro m σ1 H1 ⟨F1, ρ1, μ1, hF, R1, q1⟩
  refine ⟨F1, ρ1, μ1, _, R1.rel, turn m ρ1 μ1 q1, fun b F2 μ2 H2 e2 o2 q2 => ?_⟩
  cases b with
  | true =>
    obtain ⟨N, hN, q2⟩ := q2
    have hF2 : FLe F F2 := hF.trans e2.mono
    refine ⟨fun σ' H' => ∃ F' ρ' μ', FLe F F' ∧ RelB X.K X.mg B F' ρ' μ' σ' H' ∧ N ρ' μ', fun σ' H' ⟨F', ρ', μ', a1, a2, a3⟩ => ?_, ?_⟩
    · obtain ⟨m', hm, w'⟩ := hN ρ' μ' a3
      exact ⟨m', hm, F', ρ', μ', a1, a2, w'⟩
    · exact ⟨F2, ρ1, μ2, _, R1.step e2 o2, q2, fun F4 ρ4 μ4 σ4 H4 h4 R4 q4 => ⟨F4, ρ4, μ4, hF2.trans h4, R4, q4⟩, fun F4 ρ4 μ4 σ4 H4 h4 R4 q4 => kn F4 ρ4 μ4 σ4 H4 (hF2.trans h4) R4 q4, fun F4 ρ4 μ4 σ4 H4 h4 R4 q4 => ⟨F4, ρ4, μ4, hF2.trans h4, R4, q4⟩, kr⟩
  | false => exact kn F2 ρ1 μ2 σ1 H2 (hF.trans e2.mono) (R1.step e2 o2) q2

@[simp] def wipeD (ρ : DEnv) : List Nat → DEnv
  | [] => ρ
  | v :: vs => (wipeD ρ vs).set v none
theorem wipeD_length (ρ : DEnv) : ∀ vs, (wipeD ρ vs).length = ρ.length
  | [] => rfl
  | v :: vs => by unfold wipeD; rw [List.length_set, wipeD_length ρ vs]
theorem set_none_some {α : Type} {l : List (Option α)} {v i : Nat} {x : α} (h : (l.set v none)[i]? = some (some x)) : v ≠ i ∧ l[i]? = some (some x) := by
  by_cases hv : v = i
  · subst hv
    have hl : v < l.length := by
      have := (List.getElem?_eq_some_iff.mp h).1
      rwa [List.length_set] at this
    rw [List.getElem?_set_self hl] at h
    cases h
  · rw [List.getElem?_set_ne hv] at h
    exact ⟨hv, h⟩
theorem wipeD_some {ρ : DEnv} {i : Nat} {x : DS} : ∀ {vs : List Nat}, (wipeD ρ vs)[i]? = some (some x) → ρ[i]? = some (some x) ∧ i ∉ vs
  | [], h => ⟨h, by simp⟩
  | v :: vs, h => by
    obtain ⟨h1, h2⟩ := set_none_some h
    obtain ⟨h3, h4⟩ := wipeD_some (vs := vs) h2
    refine ⟨h3, ?_⟩
    rw [List.mem_cons, not_or]
    exact ⟨fun q => h1 q.symm, h4⟩
theorem wipe_get {σ : L2.St} {i : Nat} : ∀ {vs : List Nat}, i ∉ vs → (wipe σ vs)[i]? = σ[i]?
  | [], _ => rfl
  | v :: vs, h => by
    rw [List.mem_cons, not_or] at h
    show ((wipe σ vs).set v none)[i]? = _
    rw [List.getElem?_set_ne (fun q => h.1 q.symm), wipe_get h.2]
theorem RelB.wipe {K : PySem.W.Frag} {mg : Str → Option Value} {B : Bs} {F H : Hp} {ρ : DEnv} {μ : Sto} {σ : L2.St} (r : RelB K mg B F ρ μ σ H) (vs : List Nat) : RelB K mg B F (wipeD ρ vs) μ (L2.wipe σ vs) H := by
  refine ⟨⟨r.rel.ok, by rw [wipeD_length, wipe_length]; exact r.rel.len, fun i s e => ?_, fun i j xs ys e1 e2 e3 => ?_⟩, r.ext, fun i xs a e1 e2 => ?_⟩
  · obtain ⟨e, n⟩ := wipeD_some e
    obtain ⟨v, h1, h2⟩ := r.rel.slot i s e
    exact ⟨v, by rw [wipe_get n]; exact h1, h2⟩
  · obtain ⟨e1, n1⟩ := wipeD_some e1
    obtain ⟨e2, n2⟩ := wipeD_some e2
    rw [wipe_get n1, wipe_get n2] at e3
    exact r.rel.apart i j xs ys e1 e2 e3
  · obtain ⟨e1, n1⟩ := wipeD_some e1
    rw [wipe_get n1] at e2
    exact r.new i xs a e1 e2
theorem wipe_eq {σ σ' : L2.St} {vs : List Nat} (hl : σ'.length = σ.length) (h : ∀ j, j ∉ vs → σ'[j]? = σ[j]?) : wipe σ' vs = wipe σ vs := by
  have inn : ∀ (τ : L2.St) (us : List Nat) (j : Nat), j ∈ us → j < τ.length → (wipe τ us)[j]? = some none := by
    intro τ us
    induction us with
    | nil => intro j h; cases h
    | cons u us ih =>
      intro j hj hl
      show ((wipe τ us).set u none)[j]? = _
      by_cases hu : u = j
      · subst hu
        exact List.getElem?_set_self (by rw [wipe_length]; exact hl)
      · rw [List.getElem?_set_ne hu]
        rcases List.mem_cons.mp hj with z | z
        · exact absurd z.symm hu
        · exact ih j z hl
  apply List.ext_getElem?
  intro j
  by_cases hj : j ∈ vs
  · by_cases hjl : j < σ.length
    · rw [inn σ vs j hj hjl, inn σ' vs j hj (by rw [hl]; exact hjl)]
    · rw [List.getElem?_eq_none (by rw [wipe_length]; omega), List.getElem?_eq_none (by rw [wipe_length]; omega)]
  · rw [wipe_get hj, wipe_get hj, h j hj]
structure DTs (X : Cx) (ifs : List Expr) (d : TTD) : Prop where
  run : PTs X ifs (liftT X.K X.mg d)
@[simp] def dYes : TTD := fun _ μ Q => Q true μ
theorem dts_nil : DTs X [] dYes := ⟨⟨fun pins s σ H Q I h => pts_nil.run pins s σ H Q I (by
  obtain ⟨F, ρ, μ, Qd, R, hd, k⟩ := h
  exact k true F μ H .refl R.ok hd)⟩⟩
theorem dts_one {c : Expr} {tc : TTD} (h : DT X c tc) : DTs X [c] tc := ⟨pts_one h⟩
/-- acc: what is made so far -/
@[simp] def lcD (vs : List Nat) (g : TGD) (c : TTD) (el : TED) (ρ : DEnv) (inv : Sto → Prop) (Q : List D → Sto → Prop) : List D → List D → Sto → Prop
  | [], acc, μ => inv μ ∧ Q acc μ
  | x :: xs, acc, μ => inv μ ∧ g x (wipeD ρ vs) fun ρ1 => c ρ1 μ fun b μ1 => if b = true then el ρ1 μ1 fun y μ2 => acc.length < SZ ∧ lcD vs g c el ρ inv Q xs (acc ++ [y]) μ2 else lcD vs g c el ρ inv Q xs acc μ1
@[simp] def dLc (vs : List Nat) (src : TSrc) (g : TGD) (c : TTD) (el : TED) : TFD := fun ρ μ Q => src ρ μ fun items inv μ1 => lcD vs g c el ρ inv Q items [] μ1
/-- a new list is a value -/
@[simp] def dF (d : TFD) : TED := fun ρ μ Q => d ρ μ fun xs μ1 => Q (.lst xs) μ1
theorem de_F {d : TFD} (h : DF X e d) : DE X e (dF d) := h.weaken fun σ H Q q => by
  obtain ⟨F, ρ, μ, Qd, R, hd, k⟩ := q
  refine ⟨F, ρ, μ, _, R, hd, fun p vs F' μ' H' ds e o hn hf hm hh w q => ?_⟩
  have mono : FLe F' (upd F' p (.lst vs)) := fun a x z => by rw [upd_ne (ne_of_none z hf)]; exact z
  refine k _ (upd F' p (.lst vs)) μ' H' _ ⟨fun a x z => mono a x (e.mono a x z), fun a x z n => ?_, e.live⟩ (o.freeze hf hm hh) (.lst upd_same (w.mono mono)) q
  obtain ⟨g1, g2, g3⟩ := e.keep a x z n
  have ha : a ≠ p := fun q => by subst q; rw [hn] at z; cases z
  exact ⟨g1, by rw [upd_ne ha]; exact g2, g3⟩
/-- the comprehension's reading over data gives the hand layer's -/
theorem lc_weak {K : PySem.W.Frag} {mg : Str → Option Value} {vs0 ns : List Nat} {src : TSrc} {g : TGD} {c : TTD} {el : TED} (hns : ∀ j ∈ ns, j ∈ vs0) {σ : L2.St} {H : Hp} {Q : VK} (q : liftF K mg (dLc vs0 src g c el) σ H Q) :
    tLc (liftI K mg src) (fun v σ H Q => ∃ B, liftG K mg B ns g v σ H Q) (liftT K mg c) (liftE K mg el) vs0 σ H Q := by
  obtain ⟨F, ρ, μ, Qd, R, hd, k⟩ := q
  refine ⟨F, ρ, μ, _, R, hd, fun J F0 μ0 H0 items inv e0 o0 it q0 L hL => ?_⟩
  obtain ⟨o1, e1⟩ := o0.layN hL (.lst [])
  obtain ⟨fL, mL⟩ := o0.fresh hL
  have B0 : ∀ {F' : Hp} {μ' : Sto} {H' : Hp}, Ext (fun _ => none) (fun _ => none) (fun _ => none) F' μ' H' := fun {F' μ' H'} => ⟨(fun a o z => nomatch z), (fun a o z => nomatch z), fun _ _ => rfl⟩
  have R0 : RelB K mg ⟨fun _ => none, fun _ => none, fun _ => none⟩ F0 ρ μ0 σ H0 := ⟨R.ext e0 o0, B0, fun _ _ _ _ _ => rfl⟩
  · refine ⟨fun i m H1 => ∃ F1 μ1 acc vs, m = items.length - i ∧ i ≤ items.length ∧ FLe F0 F1 ∧ Ext F0 μ0 H0 F1 μ1 H1 ∧ Ok K mg F1 μ1 H1 ∧ F1 L = none ∧ μ1 L = none ∧ H1 L = some (.lst vs) ∧ Dts K mg F1 vs acc ∧ lcD vs0 g c el ρ inv Qd (items.drop i) acc μ1,
      ⟨items.length, F0, μ0, [], [], by simp, Nat.zero_le _, .rfl', e1, o1, fL, mL, upd_same, .nil, by simpa using q0⟩, ?_⟩
    rintro i m H1 ⟨F1, μ1, acc, vs, rfl, hi', hF, x1, ok1, f1, m1, h1, w1, q1⟩
    have hinv : inv μ1 := by
      cases hz : items.drop i with
      | nil => rw [hz] at q1; exact q1.1
      | cons x xs => rw [hz] at q1; exact q1.1
    obtain ⟨hgo, hstop⟩ := it F1 μ1 H1 hF ok1 hinv i
    by_cases hlt : i < items.length
    · obtain ⟨g1, g2⟩ := hgo hlt
      refine .inr ⟨g1, fun H' => ∃ F' μ' acc vs, FLe F0 F' ∧ Ext F0 μ0 H0 F' μ' H' ∧ Ok K mg F' μ' H' ∧ F' L = none ∧ μ' L = none ∧ H' L = some (.lst vs) ∧ Dts K mg F' vs acc ∧ lcD vs0 g c el ρ inv Qd (items.drop (i + 1)) acc μ',
        fun H' ⟨F', μ', acc, vs, b1, b2, b3, b4, b5, b6, b7, b8⟩ => ⟨items.length - (i + 1), by omega, F', μ', acc, vs, rfl, hlt, b1, b2, b3, b4, b5, b6, b7, b8⟩, fun x H2 hy => ?_⟩
      obtain ⟨F2, d, e2, o2, hx, wx⟩ := g2 x H2 hy
      have hdrop : items.drop i = d :: items.drop (i + 1) := by
        have hd := List.drop_eq_getElem_cons hlt
        rw [List.getElem?_eq_getElem hlt] at hx
        cases hx
        exact hd
      rw [hdrop] at q1
      have e02 := x1.trans e2
      have Rw : RelB K mg ⟨fun _ => none, fun _ => none, fun _ => none⟩ F2 (wipeD ρ vs0) μ1 (wipe σ vs0) H2 := (R0.step e02 o2).wipe _
      refine ⟨⟨fun _ => none, fun _ => none, fun _ => none⟩, F2, _, μ1, d, _, Rw, wx, q1.2, fun ρ3 σ3 R3 l3 f3 q3 => ⟨?_, ?_⟩⟩
      · have z := wipe_eq (σ := wipe σ vs0) (σ' := σ3) (vs := vs0) l3 fun j hj => f3 j fun hn => hj (hns j hn)
        rw [z]
        exact wipe_eq (wipe_length _ _) fun j hj => wipe_get hj
      · obtain ⟨hL2, fL2, mL2⟩ := e2.keep L _ h1 m1
        refine ⟨F2, ρ3, μ1, _, R3.rel, q3, fun b F4 μ4 H4 e4 o4 q4 => ?_⟩
        obtain ⟨hL4, fL4, mL4⟩ := e4.keep L _ hL2 m1
        cases b with
        | false =>
          exact ⟨F4, μ4, acc, vs, (hF.trans e2.mono).trans e4.mono, e02.trans e4, o4, fL4.trans (fL2.trans f1), mL4, hL4, w1.mono (FLe.trans e2.mono e4.mono), q4⟩
        | true =>
          refine ⟨F4, ρ3, μ4, _, R3.rel.ext e4 o4, q4, fun y F5 μ5 H5 dy e5 o5 w5 q5 => ?_⟩
          obtain ⟨hL5, fL5, mL5⟩ := e5.keep L _ hL4 mL4
          have fn : F5 L = none := fL5.trans (fL4.trans (fL2.trans f1))
          refine ⟨vs, hL5, by rw [w1.length, sizeLine_eq]; exact q5.1, F5, μ5, _, _, ((hF.trans e2.mono).trans e4.mono).trans e5.mono, ?_, o5.writeN fn mL5 _, fn, mL5, upd_same, (w1.mono ((FLe.trans e2.mono e4.mono).trans e5.mono)).append (.one w5), q5.2⟩
          have ee := e02.trans (e4.trans e5)
          refine ⟨ee.mono, fun a o z n => ?_, fun a z => ee.live a (upd_live a z)⟩
          obtain ⟨b1, b2, b3⟩ := ee.keep a o z n
          have ha : a ≠ L := fun q => by subst q; rw [hL] at z; cases z
          exact ⟨by rw [upd_ne ha]; exact b1, b2, b3⟩
    · have : i = items.length := by omega
      subst this
      refine .inl ⟨hstop rfl, ?_⟩
      rw [List.drop_length] at q1
      exact k L vs F1 μ1 H1 acc (e0.trans x1) ok1 (e0.live L hL) f1 m1 h1 w1 q1.2

section
variable {elt iter : Expr} {ifs : List Expr} {scope : Scope} {own : List (Str × Nat)} {ns : List Nat} {src : TSrc} {g : TGD} {c : TTD} {el : TED}
theorem df_lc (hc : X.calm = true) (hN : X.N.Nodup) (hi : DI X tg iter src) (ok : BlkOk X.N X.env.scope scope own)
    (hns : ∀ j ∈ ns, j ∈ own.map (·.2))
    (hg : ∀ (s : Shared) (H : Hp) (C : Addr) (cl : List (Str × Addr)) (fp : List Addr) (B : Bs), DG (X.blk s H scope (compEnvC scope cl C X.env) fp) B tg ns g) (ht : ∀ (s : Shared) (H : Hp) (C : Addr) (cl : List (Str × Addr)) (fp : List Addr), DTs (X.blk s H scope (compEnvC scope cl C X.env) fp) ifs c)
    (he : ∀ (s : Shared) (H : Hp) (C : Addr) (cl : List (Str × Addr)) (fp : List Addr), DE (X.blk s H scope (compEnvC scope cl C X.env) fp) elt el) (hs : ∀ x, foldedSetIterable iter X.env x = pure x := by intro _; rfl) :
    DF X (.ListComp elt [⟨tg, iter, ifs, 0⟩] scope pos) (dLc (own.map (·.2)) src g c el) :=
  (pe_lc (g := fun v σ H Q => ∃ B, liftG X.K X.mg B ns g v σ H Q) (tt := liftT X.K X.mg c) (te := liftE X.K X.mg el) hc hN hi ok (fun s H C cl fp => ⟨fun pins s' σ H' v u Q I r ⟨B, q⟩ => (hg s H C cl fp B).run pins s' σ H' v u Q I r q⟩)
    (fun s H C cl fp => (ht s H C cl fp).run) he hs).weaken fun _ _ _ q => lc_weak hns q
/-- a result: a value, or a new list that nobody knows -/
abbrev TRD := DEnv → Sto → (DS → Sto → Prop) → Prop
@[simp] def dVal (d : TED) : TRD := fun ρ μ Q => d ρ μ fun x μ1 => Q (.val x) μ1
@[simp] def dOwn (d : TFD) : TRD := fun ρ μ Q => d ρ μ fun xs μ1 => Q (.own xs) μ1
/-- .. as it lies in the heap; it is not known ahead -/
def ROk (K : PySem.W.Frag) (mg : Str → Option Value) (H F' : Hp) (μ' : Sto) (H' : Hp) (v : V) : DS → Prop
  | .val d => Dt K mg F' v d
  | .own xs => ∃ p vs, v = .ref p ∧ H p = none ∧ F' p = none ∧ μ' p = none ∧ H' p = some (.lst vs) ∧ Dts K mg F' vs xs
def liftR (K : PySem.W.Frag) (mg : Str → Option Value) (d : TRD) : TE := fun σ H Q => ∃ F ρ μ Qd, Rel K mg F ρ μ σ H ∧ d ρ μ Qd ∧ ∀ v F' μ' H' s, Ext F μ H F' μ' H' → Ok K mg F' μ' H' → ROk K mg H F' μ' H' v s → Qd s μ' → Q v H'
abbrev DR (X : Cx) (e : Expr) (d : TRD) : Prop := PE X e (liftR X.K X.mg d)
theorem dr_E {d : TED} (h : DE X e d) : DR X e (dVal d) := h.weaken fun σ H Q q => by
  obtain ⟨F, ρ, μ, Qd, R, hd, k⟩ := q
  exact ⟨F, ρ, μ, _, R, hd, fun v F' μ' H' dv e o w q => k v F' μ' H' (.val dv) e o w q⟩
theorem dr_F {d : TFD} (h : DF X e d) : DR X e (dOwn d) := h.weaken fun σ H Q q => by
  obtain ⟨F, ρ, μ, Qd, R, hd, k⟩ := q
  exact ⟨F, ρ, μ, _, R, hd, fun p vs F' μ' H' ds e o h1 h2 h3 h4 h5 q => k _ F' μ' H' (.own ds) e o ⟨p, vs, rfl, h1, h2, h3, h4, h5⟩ q⟩
/-- a result is stored -/
theorem RelB.setR {K : PySem.W.Frag} {mg : Str → Option Value} {B : Bs} {F F' H H' : Hp} {μ μ' : Sto} {ρ : DEnv} {σ : L2.St} {i : Nat} {v : V} {s : DS} (R : RelB K mg B F ρ μ σ H) (R' : RelB K mg B F' ρ μ' σ H') (h : ROk K mg H F' μ' H' v s) :
    RelB K mg B F' (ρ.set i (some s)) μ' (σ.set i (some v)) H' := by
  cases s with
  | val d => exact R'.set h
  | own xs =>
    obtain ⟨p, vs, rfl, h1, h2, h3, h4, h5⟩ := h
    refine R'.setOwn h2 h3 h4 h5 (R.ext.live p h1) fun j ys hj e1 e2 => ?_
    obtain ⟨v, g1, a, us, rfl, g2, g3, g4, g5⟩ := R.rel.slot j _ e1
    rw [g1] at e2
    cases e2
    rw [h1] at g4
    cases g4
@[simp] def dSetR (i : Nat) (d : TRD) : TSD := fun E ρ μ => d ρ μ fun s μ1 => E.nx (ρ.set i (some s)) μ1
theorem ds_setR {B : Bs} {i : Nat} {x : Str} {d : TRD} (h : ∀ te, PE X e te → PS X (.Assign [.Name x p] e pos) (tAsg te (gName i))) (he : DR X e d) : DSt X B (.Assign [.Name x p] e pos) (dSetR i d) := (h _ he).weaken fun D σ H h => by
  obtain ⟨F, ρ, μ, Dd, R, hd, kn, kb, kc, kr⟩ := h
  exact ⟨F, ρ, μ, _, R.rel, hd, fun v F' μ' H' s e o w q => kn F' _ μ' _ H' e.mono (R.setR (R.step e o) w) q⟩
/-- x = [..], on one line, x no cell -/
theorem ds_setLc {B : Bs} {i : Nat} {y : Str} {py spos : Pos} (hc : X.calm = true) (hN : X.N.Nodup) (hy : X.N[i]? = some y) (hyl : X.env.scope.names.lookup y = some .local)
    (hsw : swapsWith (.ListComp elt [⟨tg, iter, ifs, 0⟩] scope pos) (some (.Name y py)) spos.line X.env = pure true) (hi : DI X tg iter src) (ok : BlkOk X.N X.env.scope scope own) (hns : ∀ j ∈ ns, j ∈ own.map (·.2))
    (hg : ∀ (s : Shared) (H : Hp) (C : Addr) (cl : List (Str × Addr)) (fp : List Addr) (B : Bs), DG (X.blk s H scope (compEnvC scope cl C X.env) fp) B tg ns g) (ht : ∀ (s : Shared) (H : Hp) (C : Addr) (cl : List (Str × Addr)) (fp : List Addr), DTs (X.blk s H scope (compEnvC scope cl C X.env) fp) ifs c)
    (he : ∀ (s : Shared) (H : Hp) (C : Addr) (cl : List (Str × Addr)) (fp : List Addr), DE (X.blk s H scope (compEnvC scope cl C X.env) fp) elt el) (hs : ∀ x, foldedSetIterable iter X.env x = pure x := by intro _; rfl)
    {rd : TRD} (hr : ∀ K mg σ H Q, liftR K mg rd σ H Q → liftF K mg (dLc (own.map (·.2)) src g c el) σ H Q) :
    DSt X B (.Assign [.Name y py] (.ListComp elt [⟨tg, iter, ifs, 0⟩] scope pos) spos) (dSetR i rd) :=
  (ps_setLc (g := fun v σ H Q => ∃ B, liftG X.K X.mg B ns g v σ H Q) (tt := liftT X.K X.mg c) (te := liftE X.K X.mg el) hc hN hy hyl hsw hi ok (fun s H C cl fp => ⟨fun pins s' σ H' v u Q I r ⟨B, q⟩ => (hg s H C cl fp B).run pins s' σ H' v u Q I r q⟩)
    (fun s H C cl fp => (ht s H C cl fp).run) he hs).weaken fun D σ H h => by
  obtain ⟨F, ρ, μ, Dd, R, hd, kn, kb, kc, kr⟩ := h
  refine lc_weak hns (hr _ _ _ _ _ ⟨F, ρ, μ, _, R.rel, hd, fun v F' μ' H' s e o w q => ?_⟩)
  exact kn F' _ μ' _ H' e.mono (R.setR (R.step e o) w) q
theorem lr_val {K : PySem.W.Frag} {mg : Str → Option Value} {d : TFD} {σ : L2.St} {H : Hp} {Q : VK} (q : liftR K mg (dVal (dF d)) σ H Q) : liftF K mg d σ H Q := by
  obtain ⟨F, ρ, μ, Qd, R, hd, k⟩ := q
  refine ⟨F, ρ, μ, _, R, hd, fun p vs F' μ' H' ds e o hn hf hm hh w q => ?_⟩
  have mono : FLe F' (upd F' p (.lst vs)) := fun a x z => by rw [upd_ne (ne_of_none z hf)]; exact z
  refine k _ (upd F' p (.lst vs)) μ' H' (.val (.lst ds)) ⟨fun a x z => mono a x (e.mono a x z), fun a x z n => ?_, e.live⟩ (o.freeze hf hm hh) (.lst upd_same (w.mono mono)) q
  obtain ⟨g1, g2, g3⟩ := e.keep a x z n
  have ha : a ≠ p := fun q => by subst q; rw [hn] at z; cases z
  exact ⟨g1, by rw [upd_ne ha]; exact g2, g3⟩
/-- x, y = a, b -/
@[simp] def dPar2 (i j : Nat) (a b : TRD) : TSD := fun E ρ μ => a ρ μ fun s μ1 => b ρ μ1 fun t μ2 => E.nx ((ρ.set i (some s)).set j (some t)) μ2
theorem ROk.ext {K : PySem.W.Frag} {mg : Str → Option Value} {H F H1 F2 H2 : Hp} {μ μ2 : Sto} {v : V} {s : DS} (h : ROk K mg H F μ H1 v s) (e : Ext F μ H1 F2 μ2 H2) : ROk K mg H F2 μ2 H2 v s := by
  cases s with
  | val d => exact Dt.mono e.mono h
  | own xs =>
    obtain ⟨p, vs, rfl, h1, h2, h3, h4, h5⟩ := h
    obtain ⟨g1, g2, g3⟩ := e.keep p _ h4 h3
    exact ⟨p, vs, rfl, h1, g2.trans h2, g3, g1, h5.mono e.mono⟩
end
end
end DL

namespace DL
open PySem PySem.Spec PyProof.Rows L2

/-- no repr of a list, tuple or dict runs around -/
abbrev Quiet (A : Around) : Prop := A.guards = some []
/-- a def's promise, where no repr runs around -/
structure FnG (P : Program) (w : World) (K : PySem.W.Frag) (mg : Str → Option Value) (base : Heap) (CX : CXT) (k : Nat) (f : Addr) (fd : FuncData) (ps : List Str) (sp : Sp) : Prop where
  len : ∀ vs H Q E, sp vs H Q E → vs.length = ps.length
  run : ∀ (A : Around) (outer : List Env) (s : Shared) (H : Hp) (args : Args) (us : List Value) (vs : List V) (Q : VK) (E : XK), Quiet A → Room k A → Env0 P w K mg base A outer s H →
    BindsTo s fd args (ps.zip us) → Vals vs us → sp vs H Q E → codeAny (model P w) A (.call (.ref f) args) (CR CX outer P w H s Q E) s
section
variable {P : Program} {w : World} {K : PySem.W.Frag} {mg : Str → Option Value} {base : Heap} {CX : CXT} {j k : Nat} {f : Addr} {fd : FuncData} {ps : List Str} {sp : Sp}
theorem FnG.mono (F : FnG P w K mg base CX j f fd ps sp) (h : j ≤ k) : FnG P w K mg base CX k f fd ps sp where
  len := F.len
  run := fun A outer s H args us vs Q E g r => F.run A outer s H args us vs Q E g (r.mono h)
theorem FnG.of {name qual : Str} {st : Stmt} {N : List Str} (D : Fun K name qual st f fd) (S : FnScope N ps (defScope st)) (len : ∀ vs H Q E, sp vs H Q E → vs.length = ps.length)
    (body : ∀ (cdv : Value) (A : Around) (outer : List Env) (s : Shared) (H : Hp) (vs : List V) (Q : VK) (E : XK), Quiet (A.deeper (envOfC qual (defScope st) s.heap.objs.size f cdv)) → Room k (A.deeper (envOfC qual (defScope st) s.heap.objs.size f cdv)) →
      sp vs H Q E → ∃ t, PSs (cxOf CX P w K mg base N qual (defScope st) f cdv A outer s H E) (defBody st) t ∧ t { nx := fun _ H' => Q .non H', rt := Q } (L2.start N vs) H) :
    FnG P w K mg base CX (k + 1) f fd ps sp := by
  obtain ⟨oc, od, kV, doc, pm, an, cdv, ct, osl, rfl, hk, hcode⟩ := D.ex
  refine ⟨len, ?_⟩
  intro A outer s H args us vs Q E quiet room env bind rel hsp
  have n := len _ _ _ _ hsp
  have kin : K.In s.heap := env.mod.kin.keeps (fun b o z => (env.bs b o z).1)
  have free : s.heap.NoLimit := env.mod.nolimit.keeps (fun b o z => (env.bs b o z).1)
  refine codeAny_call_function room.depth (kin _ _ hk) rfl S.co S.gen rfl (PySem.W.codeRec_of kin hcode) (bind _ _ _ _ ?_)
  have loc : ∀ y ∈ ps.zip us, (defScope st).names.lookup y.1 = some .local ∨ ((defScope st).names.lookup y.1 = some .cell ∧ ((cellsFrom (s.heap.objs.size + 1) (defScope st).names []).lookup y.1).isSome = true) := by
    intro y hy
    rcases S.par y.1 (List.of_mem_zip hy).1 with q | q
    · exact Or.inl q
    · exact Or.inr ⟨q, PySem.W.cellsFrom_some _ _ _ (Or.inl q)⟩
  refine wpAny_newFunctionEnv_cells S.kind loc ?_
  intro env' he s1 x
  subst he
  refine ⟨free.keeps x.toInCall.keep, codeAny_func ?_⟩
  obtain ⟨t, ht, hq⟩ := body cdv A outer s H vs Q E quiet (room.deeper _) hsp
  have I := inv_start (CX := CX) (E := E) S room.hd env n rel x
  refine wpAny_mono (ht.run [] s1 _ H _ I hq) ?_ (fun _ _ z => z)
  intro fl s' hs
  match fl, hs with
  | .ret u, ⟨v, σ', H', J, rv, q⟩ => exact ⟨v, H', J.os, J.bare, J.base, J.hok, rv, q⟩
  | .next, ⟨σ', H', J, q⟩ => exact ⟨V.non, H', J.os, J.bare, J.base, J.hok, rfl, q⟩
  | .brk, ⟨_, _, _, q⟩ => exact q.elim
  | .cont, ⟨_, _, _, q⟩ => exact q.elim
end

/-- an exception over data: its class, its fields -/
abbrev DXK := Str → List (Str × D) → Sto → Prop
abbrev DSp := List D → Sto → DK → DXK → Prop
/-- an exception of a class of the module, as the hand layer tells it -/
def XD (K : PySem.W.Frag) (mg : Str → Option Value) (H0 : Hp) (F : Hp) (μ : Sto) (H : Hp) (cv : Value) (od : Option Addr) (c : Str) (fs : List (Str × D)) : Prop :=
  ∃ C, cv = .ref C ∧ mg c = some (.ref C) ∧ ((od = none ∧ fs = []) ∨ ∃ d vfs, od = some d ∧ fs ≠ [] ∧ H0 d = none ∧ F d = none ∧ μ d = none ∧ H d = some (.xd vfs) ∧ vfs.map (·.1) = fs.map (·.1) ∧ Dts K mg F (vfs.map (·.2)) (fs.map (·.2)))
def liftP (K : PySem.W.Frag) (mg : Str → Option Value) (S : DSp) : Sp := fun vs H Q E => ∃ F μ ds Qd Ed, Ok K mg F μ H ∧ Dts K mg F vs ds ∧ S ds μ Qd Ed ∧
  (∀ v F' μ' H' dv, Ext F μ H F' μ' H' → Ok K mg F' μ' H' → Dt K mg F' v dv → Qd dv μ' → Q v H') ∧
  (∀ cv od F' μ' H' c fs, Ext F μ H F' μ' H' → Ok K mg F' μ' H' → XD K mg H F' μ' H' cv od c fs → Ed c fs μ' → E cv od H')
abbrev noD : DXK := fun _ _ _ => False
/-- a call by position, where no repr runs around -/
def FR (P : Program) (w : World) (K : PySem.W.Frag) (mg : Str → Option Value) (base : Heap) (CX : CXT) (k : Nat) (f : Addr) (sp : Sp) : Prop :=
  ∀ (A : Around) (outer : List Env) (s : Shared) (H : Hp) (us : List Value) (vs : List V) (Q : VK) (E : XK), Quiet A → Room k A → Env0 P w K mg base A outer s H → Vals vs us → sp vs H Q E → codeAny (model P w) A (.call (.ref f) ⟨us, []⟩) (CR CX outer P w H s Q E) s
theorem FnG.toR {P : Program} {w : World} {K : PySem.W.Frag} {mg : Str → Option Value} {base : Heap} {CX : CXT} {k : Nat} {f : Addr} {fd : FuncData} {ps : List Str} {sp : Sp} (F : FnG P w K mg base CX k f fd ps sp) (hb : Binds K fd ps []) : FR P w K mg base CX k f sp := by
  intro A outer s H us vs Q E quiet room env r h
  have kin : K.In s.heap := env.mod.kin.keeps (fun b o z => (env.bs b o z).1)
  have n : (us ++ []).length = ps.length := by rw [List.append_nil, ← r.length]; exact F.len _ _ _ _ h
  have b := hb s us kin n
  rw [List.append_nil] at b
  exact F.run A outer s H ⟨us, []⟩ us vs Q E quiet room env b r h
/-- the def x of the module keeps the promise S, by at most level k -/
structure Cal (P : Program) (w : World) (K : PySem.W.Frag) (mg : Str → Option Value) (base : Heap) (CX : CXT) (k : Nat) (x : Str) (S : DSp) : Prop where
  ex : ∃ f, FR P w K mg base CX k f (liftP K mg S) ∧ mg x = some (.ref f) ∧ PySem.W.keepIn K (.ref f) = true
theorem Cal.mono {P : Program} {w : World} {K : PySem.W.Frag} {mg : Str → Option Value} {base : Heap} {CX : CXT} {j k : Nat} {x : Str} {S : DSp} (c : Cal P w K mg base CX j x S) (h : j ≤ k) : Cal P w K mg base CX k x S := by
  obtain ⟨f, F, r⟩ := c.ex
  exact ⟨f, fun A outer s H us vs Q E q rm => F A outer s H us vs Q E q (rm.mono h), r⟩
theorem Cal.imp {P : Program} {w : World} {K : PySem.W.Frag} {mg : Str → Option Value} {base : Heap} {CX : CXT} {k : Nat} {x : Str} {S S' : DSp} (c : Cal P w K mg base CX k x S) (h : ∀ ds μ Q E, S' ds μ Q E → S ds μ Q E) : Cal P w K mg base CX k x S' := by
  obtain ⟨f, F, r⟩ := c.ex
  have go : ∀ vs H Q E, liftP K mg S' vs H Q E → liftP K mg S vs H Q E := fun vs H Q E ⟨F, μ, ds, Qd, Ed, h1, h2, h3, h4⟩ => ⟨F, μ, ds, Qd, Ed, h1, h2, h _ _ _ _ h3, h4⟩
  exact ⟨f, fun A outer s H us vs Q E q rm e v z => F A outer s H us vs Q E q rm e v (go _ _ _ _ z), r⟩
/-- the slots at the entry -/
@[simp] def startD (n : Nat) (ds : List D) : DEnv := ds.map (fun d => some (.val d)) ++ List.replicate (n - ds.length) none
theorem start_rel {K : PySem.W.Frag} {mg : Str → Option Value} {F H : Hp} {μ : Sto} {vs : List V} {ds : List D} {N : List Str} (o : Ok K mg F μ H) (r : Dts K mg F vs ds) : RelB K mg ⟨F, μ, H⟩ F (startD N.length ds) μ (L2.start N vs) H := by
  have noOwn : ∀ (i : Nat) (xs : List D), (startD N.length ds)[i]? ≠ some (some (DS.own xs)) := fun i xs e => by
    unfold startD at e
    by_cases hi : i < ds.length
    · rw [List.getElem?_append_left (by simpa using hi), List.getElem?_map] at e
      cases z : ds[i]? with
      | none => rw [z] at e; cases e
      | some d => rw [z] at e; cases e
    · rw [List.getElem?_append_right (by simpa using hi), List.getElem?_replicate] at e
      split at e <;> cases e
  refine ⟨⟨o, ?_, fun i s e => ?_, fun i j xs ys e1 _ _ => absurd e1 (noOwn i xs)⟩, .refl, fun i xs a e _ => absurd e (noOwn i xs)⟩
  · unfold startD L2.start
    rw [List.length_append, List.length_append, List.length_map, List.length_map, List.length_replicate, List.length_replicate, r.length]
  · unfold startD at e
    by_cases hi : i < ds.length
    · rw [List.getElem?_append_left (by simpa using hi), List.getElem?_map] at e
      cases z : ds[i]? with
      | none => rw [z] at e; cases e
      | some d =>
        rw [z] at e; cases e
        obtain ⟨v, h1, h2⟩ := r.get z
        refine ⟨v, ?_, h2⟩
        unfold L2.start
        rw [List.getElem?_append_left (by rw [List.length_map, r.length]; exact hi), List.getElem?_map, h1]
        rfl
    · rw [List.getElem?_append_right (by simpa using hi), List.getElem?_replicate] at e
      split at e <;> cases e
section
variable {P : Program} {w : World} {K : PySem.W.Frag} {mg : Str → Option Value} {base : Heap} {k n : Nat} {f : Addr} {fd : FuncData} {ps : List Str} {S : DSp}
/-- a def that raises nothing, by its body over data -/
theorem FnG.ofD {name qual : Str} {st : Stmt} {N : List Str} (D : Fun K name qual st f fd) (Sc : FnScope N ps (defScope st)) (len : ∀ ds μ Q E, S ds μ Q E → ds.length = ps.length) (d : TSD)
    (hd : ∀ ds μ Q E, S ds μ Q E → d { nx := fun _ μ' => Q .non μ', rt := Q } (startD N.length ds) μ)
    (body : ∀ (cdv : Value) (A : Around) (outer : List Env) (s : Shared) (H : Hp) (E : XK) (B : Bs), Quiet (A.deeper (envOfC qual (defScope st) s.heap.objs.size f cdv)) → Room k (A.deeper (envOfC qual (defScope st) s.heap.objs.size f cdv)) →
      DSs (cxOf L2.CX0 P w K mg base N qual (defScope st) f cdv A outer s H E).nox B (defBody st) d) : FnG P w K mg base L2.CX0 (k + 1) f fd ps (liftP K mg S) := by
  refine FnG.of D Sc ?_ ?_
  · rintro vs H Q E ⟨F, μ, ds, Qd, Ed, _, h2, h3, _⟩
    exact h2.length.trans (len _ _ _ _ h3)
  · rintro cdv A outer s H vs Q E quiet room ⟨F, μ, ds, Qd, Ed, h1, h2, h3, h4, h5⟩
    refine ⟨_, PSs.nox (body cdv A outer s H E ⟨F, μ, H⟩ quiet room), ?_⟩
    refine ⟨F, startD N.length ds, μ, { nx := fun _ μ' => Qd .non μ', rt := Qd }, start_rel h1 h2, hd _ _ _ _ h3, ?_, fun _ _ _ _ _ _ _ z => z.elim, fun _ _ _ _ _ _ _ z => z.elim, ?_⟩
    · exact fun F' ρ' μ' σ' H' _ R q => h4 .non F' μ' H' .non R.ext R.rel.ok .non q
    · exact h4
theorem Cal.of {x : Str} (F : FnG P w K mg base L2.CX0 k f fd ps (liftP K mg S)) (hx : mg x = some (.ref f)) (hk : PySem.W.keepIn K (.ref f) = true) (hb : Binds K fd ps []) : Cal P w K mg base L2.CX0 k x S := ⟨f, F.toR hb, hx, hk⟩
end
section
variable {X : Cx} {k : Nat} {x : Str} {S : DSp} {e : Expr} {es : List Expr} {t : TAD} {p pos : Pos} {CX : CXT}
@[simp] def dCall (S : DSp) (t : TAD) (E : DXK) : TED := fun ρ μ Q => t ρ μ fun ds μ1 => S ds μ1 Q E
/-- the callee runs -/
theorem run_g {f : Addr} {sp : Sp} {E : XK} {pins : List (Addr × Obj)} {σ : L2.St} {H : Hp} {s : Shared} {Q : VK} {us : List Value} {vs : List V} (F : FR X.prog X.w X.K X.mg X.base CX k f sp) (quiet : Quiet X.A) (room : Room k X.A)
    (hx : Passes CX X E) (I : Inv X pins σ H s) (r : Vals vs us) (h : sp vs H Q E) : wpAny (model X.prog X.w) X.A (call (.ref f) us) (EP X pins σ Q) X.xe s := by
  refine wpAny_call (codeAny_mono (F X.A X.stack s H us vs Q E quiet room I.env0 r h) ?_)
  intro z s' hz
  match z, hz with
  | .error e, hz => exact hx pins σ H s e s' I hz
  | .ok (.ret u), hz => exact I.after hz
theorem de_call (c : Cal X.prog X.w X.K X.mg X.base L2.CX0 k x S) (quiet : Quiet X.A) (room : Room k X.A) (hg : Gl X x) (ha : DA X (e :: es) t) (hdb : (x == ("__debug__" : Str)) = false := by decide)
    (he : starEach (e :: es) X.env = (false, eval e X.env) :: starEach es X.env := by rfl) (hpl : (backTo pos (starEach es X.env)).any (·.1) = false := by rfl) : DE X (.Call (.Name x p) (e :: es) [] pos) (dCall S t noD) := by
  obtain ⟨f, F, hm, hk⟩ := c.ex
  refine ⟨fun pins s σ H Q I h => ?_⟩
  obtain ⟨F0, ρ, μ, Qd, R, hd, kk⟩ := h
  refine wpAny_Call_Name_kw (ld_glob I hg hm ?_ hdb)
  refine PySem.W.callWith_K (h₀ := X.base) I.ok.mod.kin hk (thn (ha.run pos pins s σ H (fun vs H1 => liftP X.K X.mg S vs H1 Q L2.E0) I ⟨F0, ρ, μ, _, R, hd, fun vs F1 μ1 H1 ds e1 o1 w1 q1 => ?_⟩) fun us s1 ⟨vs, H1, I1, r, q⟩ => ⟨I1.kIn, ?_⟩) he hpl
  · exact ⟨F1, μ1, ds, Qd, noD, o1, w1, q1, fun v F' μ' H' dv e o w q => kk v F' μ' H' dv (e1.trans e) o w q, fun _ _ _ _ _ _ _ _ _ _ z => z.elim⟩
  · exact run_g F quiet room L2.pass0 I1 r q
end
end DL

namespace DL
open PySem PySem.Spec PyProof.Rows L2
abbrev RDn := List D → Sto → DK → Prop
def CallS (K : PySem.W.Frag) (mg : Str → Option Value) (r : List V → Hp → VK → Prop) (rd : RDn) : Prop :=
  ∀ (F : Hp) (μ : Sto) (H : Hp) (vs : List V) (ds : List D) (Qd : DK) (Q : VK), Ok K mg F μ H → Wks K mg F μ H vs ds → rd ds μ Qd →
    (∀ v F' μ' H' dv, Ext F μ H F' μ' H' → Ok K mg F' μ' H' → Dt K mg F' v dv → Qd dv μ' → Q v H') → r vs H Q
@[simp] def dFn (rd : RDn) (t : TAD) : TED := fun ρ μ Q => t ρ μ fun ds μ1 => rd ds μ1 Q
section
variable {X : Cx} {x : Str} {p pos : Pos} {e : Expr} {es : List Expr} {t : TAD} {id T : String} {r : List V → Hp → VK → Prop} {rd : RDn}
theorem lift_fn {K : PySem.W.Frag} {mg : Str → Option Value} (hs : CallS K mg r rd) {σ : L2.St} {H : Hp} {Q : VK} (h : liftE K mg (dFn rd t) σ H Q) : tCB r (liftAW K mg t) σ H Q := by
  obtain ⟨F, ρ, μ, Qd, R, hd, k⟩ := h
  exact ⟨F, ρ, μ, _, R, hd, fun vs F1 μ1 H1 ds e1 o1 w1 q1 => hs F1 μ1 H1 vs ds Qd Q o1 w1 q1 fun v F2 μ2 H2 dv e2 o2 w2 q2 => k v F2 μ2 H2 dv (e1.trans e2) o2 w2 q2⟩
theorem de_fnB (hc : CallR X (.builtin id) r) (hs : CallS X.K X.mg r rd) (hg : Gl X x) (hm : X.mg x = none) (hv : bootBuiltins x = some (.builtin id)) (ha : DAW X (e :: es) t) (hn : x ≠ "__name__" := by decide) (hdb : (x == ("__debug__" : Str)) = false := by decide)
    (he : starEach (e :: es) X.env = (false, eval e X.env) :: starEach es X.env := by rfl) (hpl : (backTo pos (starEach es X.env)).any (·.1) = false := by rfl) : DE X (.Call (.Name x p) (e :: es) [] pos) (dFn rd t) :=
  (pe_callB hc hg hm hv ha hn hdb he hpl).weaken fun _ _ _ q => lift_fn hs q
theorem de_fnT (hc : CallR X (.type T) r) (hs : CallS X.K X.mg r rd) (hg : Gl X x) (hm : X.mg x = none) (hv : bootBuiltins x = some (.type T)) (ha : DAW X (e :: es) t) (hn : x ≠ "__name__" := by decide) (hdb : (x == ("__debug__" : Str)) = false := by decide)
    (he : starEach (e :: es) X.env = (false, eval e X.env) :: starEach es X.env := by rfl) (hpl : (backTo pos (starEach es X.env)).any (·.1) = false := by rfl) : DE X (.Call (.Name x p) (e :: es) [] pos) (dFn rd t) :=
  (pe_callTy hc hg hm hv ha hn hdb he hpl).weaken fun _ _ _ q => lift_fn hs q
end
section
variable {K : PySem.W.Frag} {mg : Str → Option Value} {F H : Hp} {μ : Sto}
theorem Wks.one {vs : List V} {d : D} (h : Wks K mg F μ H vs [d]) : ∃ v, vs = [v] ∧ Wk K mg F μ H v d := by
  cases h with
  | cons a b => cases b; exact ⟨_, rfl, a⟩
theorem Wks.two {vs : List V} {d e : D} (h : Wks K mg F μ H vs [d, e]) : ∃ v w, vs = [v, w] ∧ Wk K mg F μ H v d ∧ Wk K mg F μ H w e := by
  cases h with
  | cons a b =>
    obtain ⟨w, rfl, c⟩ := b.one
    exact ⟨_, _, rfl, a, c⟩
def refLst (μ : Sto) (a : Addr) : Option (List D) := match μ a with
  | some (.lst xs) => some xs
  | _ => none
theorem refLst_some {a : Addr} {xs : List D} (h : refLst μ a = some xs) : μ a = some (.lst xs) := by
  unfold refLst at h
  split at h
  · rename_i ys hy
    cases h
    exact hy
  · cases h
/-- a list that is read: as a value, the frame's own, the script, one that changes -/
@[simp] def lstOf (μ : Sto) : D → Option (List D)
  | .lst xs => some xs
  | .scr ns => some (ns.map D.int)
  | .ref a => refLst μ a
  | _ => none
/-- .. or a tuple -/
@[simp] def seqOf (μ : Sto) : D → Option (List D)
  | .tup xs => some xs
  | d => lstOf μ d
theorem Wk.list (o : Ok K mg F μ H) {v : V} {d : D} {xs : List D} (h : Wk K mg F μ H v d) (q : lstOf μ d = some xs) : ∃ a vs, v = .ref a ∧ SqL K H a vs ∧ Dts K mg F vs xs := by
  cases d <;> first | cases q; done | skip
  · cases q
    obtain ⟨a, vs, rfl, ha, r⟩ := h.lst o
    exact ⟨a, vs, rfl, .inl (.inl ha), r⟩
  · cases q
    obtain ⟨a, rfl, ha⟩ := h.scr o
    exact ⟨a, _, rfl, ha, Dts.ofInts _⟩
  · have q' := refLst_some q
    cases h.ref
    obtain ⟨vs, ha, r⟩ := o.sto _ _ q'
    exact ⟨_, vs, rfl, .inl (.inl ha), r⟩
theorem Wk.seq (o : Ok K mg F μ H) {v : V} {d : D} {xs : List D} (h : Wk K mg F μ H v d) (q : seqOf μ d = some xs) : ∃ a vs, v = .ref a ∧ (SqL K H a vs ∨ SqT K H a vs) ∧ Dts K mg F vs xs := by
  have other : ∀ q' : lstOf μ d = some xs, ∃ a vs, v = .ref a ∧ (SqL K H a vs ∨ SqT K H a vs) ∧ Dts K mg F vs xs := fun q' => by
    obtain ⟨a, vs, e, ha, r⟩ := h.list o q'
    exact ⟨a, vs, e, .inl ha, r⟩
  cases d with
  | tup ys =>
    cases q
    obtain ⟨a, vs, rfl, ha, _, r⟩ := h.tup o
    exact ⟨a, vs, rfl, .inr ha, r⟩
  | _ => exact other q

def rdLen : RDn
  | [.str s], μ, Q => s.length ≤ SZ ∧ Q (.int s.length) μ
  | [d], μ, Q => ∃ xs, seqOf μ d = some xs ∧ Q (.int xs.length) μ
  | _, _, _ => False
@[simp] theorem rdLen_1 : rdLen  [.str s0] μ0 Q0 = (s0.length ≤ SZ ∧ Q0 (.int s0.length) μ0) := rfl
@[simp] theorem rdLen_2 : rdLen  [.tup zs0] μ0 Q0 = (∃ xs, seqOf μ0 (.tup zs0) = some xs ∧ Q0 (.int xs.length) μ0) := rfl
@[simp] theorem rdLen_3 : rdLen  [.lst zs0] μ0 Q0 = (∃ xs, seqOf μ0 (.lst zs0) = some xs ∧ Q0 (.int xs.length) μ0) := rfl
@[simp] theorem rdLen_4 : rdLen  [.scr zs0] μ0 Q0 = (∃ xs, seqOf μ0 (.scr zs0) = some xs ∧ Q0 (.int xs.length) μ0) := rfl
@[simp] theorem rdLen_5 : rdLen  [.ref za0] μ0 Q0 = (∃ xs, seqOf μ0 (.ref za0) = some xs ∧ Q0 (.int xs.length) μ0) := rfl
def rLenA (K : PySem.W.Frag) : List V → Hp → VK → Prop := fun xs H Q => (∃ p ys, xs = [.ref p] ∧ (SqL K H p ys ∨ SqT K H p ys) ∧ Q (.int ys.length) H) ∨ (∃ z, xs = [.str z] ∧ z.length ≤ sizeLine ∧ Q (.int z.length) H)
theorem call_lenA {X : Cx} : CallR X (.builtin "len") (rLenA X.K) := .or call_len_seq call_len_str
theorem cs_len : CallS K mg (rLenA K) rdLen := by
  intro F μ H vs ds Qd Q o w h k
  unfold rdLen at h
  split at h
  · obtain ⟨v, rfl, wk⟩ := w.one
    refine .inr ⟨_, by rw [wk.str], by rw [S_len, sizeLine_eq]; exact h.1, ?_⟩
    rw [S_len]
    exact fin0 o k (.int _) h.2
  · obtain ⟨v, rfl, wk⟩ := w.one
    obtain ⟨xs, hx, h⟩ := h
    obtain ⟨a, us, rfl, ha, r⟩ := wk.seq o hx
    refine .inl ⟨a, us, rfl, ha, ?_⟩
    rw [r.length]
    exact fin0 o k (.int _) h
  · exact h.elim
def rdAbs : RDn
  | [.int i], μ, Q => Q (.int (if i < 0 then -i else i)) μ
  | _, _, _ => False
@[simp] theorem rdAbs_1 : rdAbs  [.int i0] μ0 Q0 = (Q0 (.int (if i0 < 0 then -i0 else i0)) μ0) := rfl
theorem cs_abs : CallS K mg (fun xs H Q => ∃ i, xs = [.int i] ∧ Q (.int (if i < 0 then -i else i)) H) rdAbs := by
  intro F μ H vs ds Qd Q o w h k
  unfold rdAbs at h
  split at h
  · obtain ⟨v, rfl, wk⟩ := w.one
    exact ⟨_, by rw [wk.int], fin0 o k (.int _) h⟩
  · exact h.elim
def rdInt : RDn
  | [.int i], μ, Q => Q (.int i) μ
  | [.bl k], μ, Q => Q (.int (if k then 1 else 0)) μ
  | _, _, _ => False
@[simp] theorem rdInt_1 : rdInt  [.int i0] μ0 Q0 = (Q0 (.int i0) μ0) := rfl
@[simp] theorem rdInt_2 : rdInt  [.bl k0] μ0 Q0 = (Q0 (.int (if k0 then 1 else 0)) μ0) := rfl
theorem cs_int : CallS K mg (fun xs H Q => (∃ i, xs = [.int i] ∧ Q (.int i) H) ∨ ∃ k, xs = [.bl k] ∧ Q (.int (if k then 1 else 0)) H) rdInt := by
  intro F μ H vs ds Qd Q o w h k
  unfold rdInt at h
  split at h
  · obtain ⟨v, rfl, wk⟩ := w.one
    exact .inl ⟨_, by rw [wk.int], fin0 o k (.int _) h⟩
  · obtain ⟨v, rfl, wk⟩ := w.one
    exact .inr ⟨_, by rw [wk.bl], fin0 o k (.int _) h⟩
  · exact h.elim
def rdTuple : RDn
  | [.tup xs], μ, Q => Q (.tup xs) μ
  | [d], μ, Q => ∃ xs, lstOf μ d = some xs ∧ Q (.tup xs) μ
  | _, _, _ => False
@[simp] theorem rdTuple_1 : rdTuple  [.tup xs0] μ0 Q0 = (Q0 (.tup xs0) μ0) := rfl
@[simp] theorem rdTuple_2 : rdTuple  [.lst zs0] μ0 Q0 = (∃ xs, lstOf μ0 (.lst zs0) = some xs ∧ Q0 (.tup xs) μ0) := rfl
@[simp] theorem rdTuple_3 : rdTuple  [.scr zs0] μ0 Q0 = (∃ xs, lstOf μ0 (.scr zs0) = some xs ∧ Q0 (.tup xs) μ0) := rfl
@[simp] theorem rdTuple_4 : rdTuple  [.ref za0] μ0 Q0 = (∃ xs, lstOf μ0 (.ref za0) = some xs ∧ Q0 (.tup xs) μ0) := rfl
theorem cs_tuple : CallS K mg (rTupZ K) rdTuple := by
  intro F μ H vs ds Qd Q o w h k
  unfold rdTuple at h
  split at h
  · obtain ⟨v, rfl, wk⟩ := w.one
    obtain ⟨a, us, rfl, ha, hf, r⟩ := wk.tup o
    exact ⟨a, us, rfl, .inr ⟨ha, fin0 o k (.tup hf r) h⟩⟩
  · obtain ⟨v, rfl, wk⟩ := w.one
    obtain ⟨xs, hx, h⟩ := h
    obtain ⟨a, us, rfl, ha, r⟩ := wk.list o hx
    refine ⟨a, us, rfl, .inl ⟨ha, fun l ob hl hob => ?_⟩⟩
    obtain ⟨g1, g2, g3⟩ := newTup o r hl hob
    exact k _ _ _ _ _ g1 g2 g3 h
  · exact h.elim
def rdList : RDn
  | [d], μ, Q => ∃ xs, seqOf μ d = some xs ∧ Q (.lst xs) μ
  | _, _, _ => False
@[simp] theorem rdList_1 : rdList  [.tup zs0] μ0 Q0 = (∃ xs, seqOf μ0 (.tup zs0) = some xs ∧ Q0 (.lst xs) μ0) := rfl
@[simp] theorem rdList_2 : rdList  [.lst zs0] μ0 Q0 = (∃ xs, seqOf μ0 (.lst zs0) = some xs ∧ Q0 (.lst xs) μ0) := rfl
@[simp] theorem rdList_3 : rdList  [.scr zs0] μ0 Q0 = (∃ xs, seqOf μ0 (.scr zs0) = some xs ∧ Q0 (.lst xs) μ0) := rfl
@[simp] theorem rdList_4 : rdList  [.ref za0] μ0 Q0 = (∃ xs, seqOf μ0 (.ref za0) = some xs ∧ Q0 (.lst xs) μ0) := rfl
def rdStr : RDn
  | [.int i], μ, Q => i.natAbs.log2 < 1920 ∧ Q (.str (toString i : Str).cps.toList) μ
  | _, _, _ => False
@[simp] theorem rdStr_1 : rdStr  [.int i0] μ0 Q0 = (i0.natAbs.log2 < 1920 ∧ Q0 (.str (toString i0 : Str).cps.toList) μ0) := rfl
def rdSum : RDn
  | [d], μ, Q => ∃ ns : List Int, lstOf μ d = some (ns.map D.int) ∧ Q (.int ns.sum) μ
  | _, _, _ => False
@[simp] theorem rdSum_1 : rdSum  [.lst zs0] μ0 Q0 = (∃ ns : List Int, lstOf μ0 (.lst zs0) = some (ns.map D.int) ∧ Q0 (.int ns.sum) μ0) := rfl
@[simp] theorem rdSum_2 : rdSum  [.scr zs0] μ0 Q0 = (∃ ns : List Int, lstOf μ0 (.scr zs0) = some (ns.map D.int) ∧ Q0 (.int ns.sum) μ0) := rfl
@[simp] theorem rdSum_3 : rdSum  [.ref za0] μ0 Q0 = (∃ ns : List Int, lstOf μ0 (.ref za0) = some (ns.map D.int) ∧ Q0 (.int ns.sum) μ0) := rfl
theorem cs_sum : CallS K mg (rSum K) rdSum := by
  intro F μ H vs ds Qd Q o w h k
  unfold rdSum at h
  split at h
  · obtain ⟨v, rfl, wk⟩ := w.one
    obtain ⟨ns, hx, h⟩ := h
    obtain ⟨a, us, rfl, ha, r⟩ := wk.list o hx
    rw [r.ints] at ha
    exact ⟨a, ns, rfl, ha, fin0 o k (.int _) h⟩
  · exact h.elim
def rdAll : RDn
  | [d], μ, Q => ∃ bs : List Bool, lstOf μ d = some (bs.map D.bl) ∧ Q (.bl (bs.all id)) μ
  | _, _, _ => False
@[simp] theorem rdAll_1 : rdAll  [.lst zs0] μ0 Q0 = (∃ bs : List Bool, lstOf μ0 (.lst zs0) = some (bs.map D.bl) ∧ Q0 (.bl (bs.all id)) μ0) := rfl
@[simp] theorem rdAll_2 : rdAll  [.scr zs0] μ0 Q0 = (∃ bs : List Bool, lstOf μ0 (.scr zs0) = some (bs.map D.bl) ∧ Q0 (.bl (bs.all id)) μ0) := rfl
@[simp] theorem rdAll_3 : rdAll  [.ref za0] μ0 Q0 = (∃ bs : List Bool, lstOf μ0 (.ref za0) = some (bs.map D.bl) ∧ Q0 (.bl (bs.all id)) μ0) := rfl
theorem cs_all : CallS K mg (rAll K) rdAll := by
  intro F μ H vs ds Qd Q o w h k
  unfold rdAll at h
  split at h
  · obtain ⟨v, rfl, wk⟩ := w.one
    obtain ⟨ns, hx, h⟩ := h
    obtain ⟨a, us, rfl, ha, r⟩ := wk.list o hx
    rw [r.bls] at ha
    exact ⟨a, ns, rfl, ha, fin0 o k (.bl _) h⟩
  · exact h.elim
def rdAny : RDn
  | [d], μ, Q => ∃ bs : List Bool, lstOf μ d = some (bs.map D.bl) ∧ Q (.bl (bs.any id)) μ
  | _, _, _ => False
@[simp] theorem rdAny_1 : rdAny  [.lst zs0] μ0 Q0 = (∃ bs : List Bool, lstOf μ0 (.lst zs0) = some (bs.map D.bl) ∧ Q0 (.bl (bs.any id)) μ0) := rfl
@[simp] theorem rdAny_2 : rdAny  [.scr zs0] μ0 Q0 = (∃ bs : List Bool, lstOf μ0 (.scr zs0) = some (bs.map D.bl) ∧ Q0 (.bl (bs.any id)) μ0) := rfl
@[simp] theorem rdAny_3 : rdAny  [.ref za0] μ0 Q0 = (∃ bs : List Bool, lstOf μ0 (.ref za0) = some (bs.map D.bl) ∧ Q0 (.bl (bs.any id)) μ0) := rfl
def rdMax : RDn
  | [d], μ, Q => ∃ ns : List Int, lstOf μ d = some (ns.map D.int) ∧ 0 < ns.length ∧ ∀ m, m ∈ ns → (∀ y, y ∈ ns → y ≤ m) → Q (.int m) μ
  | [.int i, .int j], μ, Q => Q (.int (if j > i then j else i)) μ
  | _, _, _ => False
@[simp] theorem rdMax_1 : rdMax  [.lst zs0] μ0 Q0 = (∃ ns : List Int, lstOf μ0 (.lst zs0) = some (ns.map D.int) ∧ 0 < ns.length ∧ ∀ m, m ∈ ns → (∀ y, y ∈ ns → y ≤ m) → Q0 (.int m) μ0) := rfl
@[simp] theorem rdMax_2 : rdMax  [.scr zs0] μ0 Q0 = (∃ ns : List Int, lstOf μ0 (.scr zs0) = some (ns.map D.int) ∧ 0 < ns.length ∧ ∀ m, m ∈ ns → (∀ y, y ∈ ns → y ≤ m) → Q0 (.int m) μ0) := rfl
@[simp] theorem rdMax_3 : rdMax  [.ref za0] μ0 Q0 = (∃ ns : List Int, lstOf μ0 (.ref za0) = some (ns.map D.int) ∧ 0 < ns.length ∧ ∀ m, m ∈ ns → (∀ y, y ∈ ns → y ≤ m) → Q0 (.int m) μ0) := rfl
@[simp] theorem rdMax_4 : rdMax  [.int i0, .int j0] μ0 Q0 = (Q0 (.int (if j0 > i0 then j0 else i0)) μ0) := rfl
def rdMin : RDn
  | [d], μ, Q => ∃ ns : List Int, lstOf μ d = some (ns.map D.int) ∧ 0 < ns.length ∧ ∀ m, m ∈ ns → (∀ y, y ∈ ns → m ≤ y) → Q (.int m) μ
  | [.int i, .int j], μ, Q => Q (.int (if j < i then j else i)) μ
  | _, _, _ => False
@[simp] theorem rdMin_1 : rdMin  [.lst zs0] μ0 Q0 = (∃ ns : List Int, lstOf μ0 (.lst zs0) = some (ns.map D.int) ∧ 0 < ns.length ∧ ∀ m, m ∈ ns → (∀ y, y ∈ ns → m ≤ y) → Q0 (.int m) μ0) := rfl
@[simp] theorem rdMin_2 : rdMin  [.scr zs0] μ0 Q0 = (∃ ns : List Int, lstOf μ0 (.scr zs0) = some (ns.map D.int) ∧ 0 < ns.length ∧ ∀ m, m ∈ ns → (∀ y, y ∈ ns → m ≤ y) → Q0 (.int m) μ0) := rfl
@[simp] theorem rdMin_3 : rdMin  [.ref za0] μ0 Q0 = (∃ ns : List Int, lstOf μ0 (.ref za0) = some (ns.map D.int) ∧ 0 < ns.length ∧ ∀ m, m ∈ ns → (∀ y, y ∈ ns → m ≤ y) → Q0 (.int m) μ0) := rfl
@[simp] theorem rdMin_4 : rdMin  [.int i0, .int j0] μ0 Q0 = (Q0 (.int (if j0 < i0 then j0 else i0)) μ0) := rfl
def rMinA (K : PySem.W.Frag) : List V → Hp → VK → Prop := fun xs H Q => rMin K xs H Q ∨ ∃ i j, xs = [.int i, .int j] ∧ Q (.int (if j < i then j else i)) H
theorem call_minA {X : Cx} (hc : X.calm = true) : CallR X (.builtin "min") (rMinA X.K) := .or (cr_min hc) (call_min2 hc)
theorem cs_min : CallS K mg (rMinA K) rdMin := by
  intro F μ H vs ds Qd Q o w h k
  unfold rdMin at h
  split at h
  · obtain ⟨v, rfl, wk⟩ := w.one
    obtain ⟨ns, hx, hl, h⟩ := h
    obtain ⟨a, us, rfl, ha, r⟩ := wk.list o hx
    rw [r.ints] at ha
    exact .inl ⟨a, ns, rfl, ha, hl, fun m h1 h2 => fin0 o k (.int _) (h m h1 h2)⟩
  · obtain ⟨v, u, rfl, wk, wk'⟩ := w.two
    exact .inr ⟨_, _, by rw [wk.int, wk'.int], fin0 o k (.int _) h⟩
  · exact h.elim
end

mutual
/-- may be written out by repr -/
def D.shows : D → Bool
  | .non => true | .bl _ => true | .int i => decide (i.natAbs.log2 < 1920) | .str _ => true
  | .tup xs => D.showsAll xs | .lst xs => D.showsAll xs
  | _ => false
def D.showsAll : List D → Bool
  | [] => true
  | x :: xs => x.shows && D.showsAll xs
end
mutual
theorem D.shows_flat : ∀ d : D, d.shows = true → d.flat = true ∧ d.py.showable = true ∧ d.py.hasDict = false
  | .non, _ => ⟨rfl, rfl, rfl⟩
  | .bl _, _ => ⟨rfl, rfl, rfl⟩
  | .int _, h => ⟨rfl, h, rfl⟩
  | .str _, _ => ⟨rfl, rfl, rfl⟩
  | .tup xs, h => D.showsAll_flat xs h
  | .lst xs, h => D.showsAll_flat xs h
  | .dct _, h => nomatch h
  | .scr _, h => nomatch h
  | .ref _, h => nomatch h
  | .ty _, h => nomatch h
  | .gl _, h => nomatch h
theorem D.showsAll_flat : ∀ ds : List D, D.showsAll ds = true → D.flats ds = true ∧ PyData.showableAll (D.pys ds) = true ∧ PyData.hasDictAll (D.pys ds) = false
  | [], _ => ⟨rfl, rfl, rfl⟩
  | x :: xs, h => by
    have h' := Bool.and_eq_true_iff.mp h
    obtain ⟨a1, a2, a3⟩ := D.shows_flat x h'.1
    obtain ⟨b1, b2, b3⟩ := D.showsAll_flat xs h'.2
    refine ⟨?_, ?_, ?_⟩
    · show (x.flat && D.flats xs) = true
      rw [a1, b1]; rfl
    · show (x.py.showable && PyData.showableAll (D.pys xs)) = true
      rw [a2, b2]; rfl
    · show (x.py.hasDict || PyData.hasDictAll (D.pys xs)) = false
      rw [a3, b3]; rfl
end
/-- the text of repr -/
def D.rep (d : D) : List Nat := d.py.shown.cps.toList
def repOk (d : D) : Prop := d.shows = true ∧ d.py.depth ≤ 50 ∧ d.rep.length ≤ SZ
def rdRepr : RDn
  | [d], μ, Q => repOk d ∧ Q (.str d.rep) μ
  | _, _, _ => False
@[simp] theorem rdRepr_1 {d : D} {μ : Sto} {Q : DK} : rdRepr [d] μ Q = (repOk d ∧ Q (.str d.rep) μ) := rfl
def rReprA (K : PySem.W.Frag) : List V → Hp → VK → Prop := fun xs H Q => ∃ x d, xs = [x] ∧ Dp K H x d ∧ d.showable = true ∧ d.hasDict = false ∧ d.depth ≤ 50 ∧ d.shown.length ≤ sizeLine ∧ Q (.str d.shown) H
theorem call_reprA {X : Cx} (quiet : Quiet X.A) (hu : X.A.units + 64 < cLine) : CallR X (.builtin "repr") (rReprA X.K) := by
  intro pins s σ H xs us Q I r h
  obtain ⟨x, d, rfl, hd, hs, hn, hdep, hsz, q⟩ := h
  obtain ⟨u, rfl, ru⟩ := Vals.one r
  obtain ⟨as, reads⟩ := Dp.reads I d x u hd ru
  have done : ∀ (tk : Nat) (t : Tok), EP X pins σ Q (.str d.shown t) { s with toks := tk } := fun tk t => ⟨.str d.shown, H, I.tok _, ⟨_, rfl⟩, q⟩
  cases hd with
  | non => cases ru; exact PySem.P.repr_of_none (done _ _)
  | bl b => cases ru; exact PySem.P.repr_of_bool (done _ _)
  | int i =>
    obtain ⟨t, rfl⟩ := ru
    exact PySem.P.repr_of_int (of_decide_eq_true hs) (done _ _)
  | str z =>
    obtain ⟨t, rfl⟩ := ru
    exact PySem.P.repr_of_str (done _ _) hsz
  | lst h1 h2 =>
    cases ru
    exact repr_of_reads' reads hs (fun c => by rw [hn] at c; cases c) quiet (by omega) (fun _ _ e => e) (fun h' t tk keep => ⟨.str _, H, I.kept keep, ⟨_, rfl⟩, q⟩) hsz
  | tup h1 h2 =>
    cases ru
    exact repr_of_reads' reads hs (fun c => by rw [hn] at c; cases c) quiet (by omega) (fun _ _ e => e) (fun h' t tk keep => ⟨.str _, H, I.kept keep, ⟨_, rfl⟩, q⟩) hsz
theorem cs_repr {K : PySem.W.Frag} {mg : Str → Option Value} : CallS K mg (rReprA K) rdRepr := by
  intro F μ H vs ds Qd Q o w h k
  unfold rdRepr at h
  split at h
  · obtain ⟨v, rfl, wk⟩ := w.one
    obtain ⟨⟨h1, h2, h3⟩, q⟩ := h
    obtain ⟨f1, f2, f3⟩ := D.shows_flat _ h1
    refine ⟨v, _, rfl, wk.dp o f1, f2, f3, h2, by rw [sizeLine_eq, ← S_of (D.py _).shown, S_len]; exact h3, ?_⟩
    have := fin0 o k (.str (D.rep _)) q
    unfold D.rep at this
    rw [S_of] at this
    exact this
  · exact h.elim

abbrev RDm := D → List D → Sto → DK → Prop
def MtS (K : PySem.W.Frag) (mg : Str → Option Value) (r : V → List V → Hp → VK → Prop) (rd : RDm) : Prop :=
  ∀ (F : Hp) (μ : Sto) (H : Hp) (v : V) (vs : List V) (d : D) (ds : List D) (Qd : DK) (Q : VK), Ok K mg F μ H → Wk K mg F μ H v d → Wks K mg F μ H vs ds → rd d ds μ Qd →
    (∀ v F' μ' H' dv, Ext F μ H F' μ' H' → Ok K mg F' μ' H' → Dt K mg F' v dv → Qd dv μ' → Q v H') → r v vs H Q
/-- of which built-in type the receiver is -/
@[simp] def tyD (μ : Sto) (T : String) (d : D) : Prop := match d with
  | .str _ => T = "str"
  | .int _ => T = "int"
  | d => T = "list" ∧ ∃ xs, lstOf μ d = some xs
@[simp] def dMt (T : String) (rd : RDm) (o : TED) (t : TAD) : TED := fun ρ μ Q => o ρ μ fun x μ1 => tyD μ1 T x ∧ t ρ μ1 fun ds μ2 => rd x ds μ2 Q
theorem Wk.ty' {K : PySem.W.Frag} {mg : Str → Option Value} {F H : Hp} {μ : Sto} (o : Ok K mg F μ H) {T : String} {v : V} {d : D} (w : Wk K mg F μ H v d) (h : tyD μ T d) : tyV K T v H := by
  have other : (T = "list" ∧ ∃ xs, lstOf μ d = some xs) → tyV K T v H := fun ⟨e, xs, hx⟩ => by
    obtain ⟨a, vs, rfl, ha, r⟩ := w.list o hx
    exact .inl ⟨e, vs, ha⟩
  cases d with
  | str s => rw [w.str]; exact h
  | int i => rw [w.int]; exact h
  | _ => exact other h
section
variable {X : Cx} {o e : Expr} {es : List Expr} {d : TED} {t : TAD} {name : Str} {apos cpos : Pos} {T id : String} {r : V → List V → Hp → VK → Prop} {rd : RDm}
theorem de_mt (pa : PlainAttrs T) (slot : Slot T name id) (hty : typeOf (.builtin id) = pure (.type "method_descriptor")) (hm : MtR X id r) (hs : MtS X.K X.mg r rd) (ho : DW X o d) (ha : DAW X (e :: es) t)
    (hbase : attributeBase o name X.env (eval o X.env) = eval o X.env := by rfl)
    (hfew : ((backTo cpos (starEach (e :: es) X.env)).all (fun x => !x.1) && (backToKw cpos (keywordEach [] X.env)).all (fun x => x.1.isSome) && decide ((e :: es).length + ([] : List Keyword).length + (if ([] : List Keyword).isEmpty then 0 else 1) < 30)) = true := by rfl)
    (hline : (apos.endLine == cpos.line) = true := by rfl) (hst : starEach (e :: es) X.env = (false, eval e X.env) :: starEach es X.env := by rfl) (hplain : (backTo cpos (starEach es X.env)).any (·.1) = false := by rfl) :
    DE X (.Call (.Attribute o name apos) (e :: es) [] cpos) (dMt T rd d t) := (pe_bm pa slot hty hm ho ha hbase hfew hline hst hplain).weaken fun σ H Q q => by
  obtain ⟨F, ρ, μ, Qd, R, hd, k⟩ := q
  refine ⟨F, ρ, μ, _, R, hd, fun v F1 μ1 H1 dv e1 o1 w1 q1 => ⟨w1.ty' o1 q1.1, F1, ρ, μ1, _, R.ext e1 o1, q1.2, fun vs F2 μ2 H2 ds e2 o2 w2 q2 => ?_⟩⟩
  exact hs F2 μ2 H2 v vs dv ds Qd Q o2 (w1.ext e2) w2 q2 fun z F3 μ3 H3 dz e3 o3 w3 q3 => k z F3 μ3 H3 dz (e1.trans (e2.trans e3)) o3 w3 q3
end
/-- the texts joined -/
def joinL (sep : List Nat) : List (List Nat) → List Nat
  | [] => []
  | x :: r => x ++ (r.map fun y => sep ++ y).flatten
theorem join_S (sep : List Nat) (parts : List (List Nat)) : PySem.Txt.join (S sep) (parts.map S) = S (joinL sep parts) := by
  have go : ∀ (r : List (List Nat)) (acc : List Nat), (r.map S).foldl (fun acc p => acc ++ (S sep).cps ++ p.cps) acc.toArray = (acc ++ (r.map fun y => sep ++ y).flatten).toArray := by
    intro r
    induction r with
    | nil => intro acc; simp
    | cons x r ih =>
      intro acc
      rw [List.map_cons, List.foldl_cons]
      have e : acc.toArray ++ (S sep).cps ++ (S x).cps = (acc ++ sep ++ x).toArray := by simp
      rw [e, ih]
      simp
  show Builtin.Str.glued (S sep) (parts.map S) = _
  unfold Builtin.Str.glued
  cases parts with
  | nil => rfl
  | cons x r =>
    rw [List.map_cons]
    have := go r x
    show (⟨_⟩ : Str) = _
    rw [List.drop_one, List.tail_cons, List.headD_cons, this]
    rfl
theorem strs_len (parts : List (List Nat)) : ((parts.map S).map (·.length)).sum = (parts.map List.length).sum := by
  rw [List.map_map]
  exact congrArg List.sum (List.map_congr_left fun x _ => S_len x)
def rdJoin : RDm
  | .str sep, [d], μ, Q => ∃ parts : List (List Nat), seqOf μ d = some (parts.map D.str) ∧ (parts.map List.length).sum + parts.length * sep.length ≤ SZ ∧ Q (.str (joinL sep parts)) μ
  | _, _, _, _ => False
@[simp] theorem rdJoin_1 : rdJoin  (.str sep0) [.tup zs0] μ0 Q0 = (∃ parts : List (List Nat), seqOf μ0 (.tup zs0) = some (parts.map D.str) ∧ (parts.map List.length).sum + parts.length * sep0.length ≤ SZ ∧ Q0 (.str (joinL sep0 parts)) μ0) := rfl
@[simp] theorem rdJoin_2 : rdJoin  (.str sep0) [.lst zs0] μ0 Q0 = (∃ parts : List (List Nat), seqOf μ0 (.lst zs0) = some (parts.map D.str) ∧ (parts.map List.length).sum + parts.length * sep0.length ≤ SZ ∧ Q0 (.str (joinL sep0 parts)) μ0) := rfl
@[simp] theorem rdJoin_3 : rdJoin  (.str sep0) [.scr zs0] μ0 Q0 = (∃ parts : List (List Nat), seqOf μ0 (.scr zs0) = some (parts.map D.str) ∧ (parts.map List.length).sum + parts.length * sep0.length ≤ SZ ∧ Q0 (.str (joinL sep0 parts)) μ0) := rfl
@[simp] theorem rdJoin_4 : rdJoin  (.str sep0) [.ref za0] μ0 Q0 = (∃ parts : List (List Nat), seqOf μ0 (.ref za0) = some (parts.map D.str) ∧ (parts.map List.length).sum + parts.length * sep0.length ≤ SZ ∧ Q0 (.str (joinL sep0 parts)) μ0) := rfl
theorem ms_join {K : PySem.W.Frag} {mg : Str → Option Value} : MtS K mg (fun x xs H Q => ∃ a p, ∃ ys : List Str, x = .str a ∧ xs = [.ref p] ∧ (SqL K H p (ys.map V.str) ∨ SqT K H p (ys.map V.str)) ∧ (ys.map (·.length)).sum + ys.length * a.length ≤ 16777216 ∧ Q (.str (PySem.Txt.join a ys)) H) rdJoin := by
  intro F μ H v vs d ds Qd Q o w ws h k
  unfold rdJoin at h
  split at h
  · obtain ⟨u, rfl, wk⟩ := ws.one
    obtain ⟨parts, hx, hz, h⟩ := h
    obtain ⟨a, us, rfl, ha, r⟩ := wk.seq o hx
    rw [r.strs] at ha
    refine ⟨_, a, parts.map S, w.str, rfl, ha, ?_, ?_⟩
    · rw [strs_len, List.length_map, S_len]; exact hz
    · rw [join_S]
      exact fin0 o k (.str _) h
  · exact h.elim
/-- the first place of a sign from a place on, or -1 -/
def findI (s : List Nat) (c : Nat) (b : Nat) : Int := match (s.drop b).findIdx? (· == c) with
  | some k => ((b + k : Nat) : Int)
  | none => -1
def rdFind : RDm
  | .str s, [.str [c], .int i], μ, Q => 0 ≤ i ∧ Q (.int (findI s c i.toNat)) μ
  | _, _, _, _ => False
@[simp] theorem rdFind_1 : rdFind  (.str s0) [.str [c0], .int i0] μ0 Q0 = (0 ≤ i0 ∧ Q0 (.int (findI s0 c0 i0.toNat)) μ0) := rfl
theorem find3_S (s : List Nat) (c : Nat) (i : Int) (h : 0 ≤ i) : PySem.Txt.find3 (S s) ⟨#[c]⟩ i = findI s c i.toNat := by
  have hf : PySem.fromIndex (S s).length i = i.toNat := by
    unfold PySem.fromIndex
    rw [if_neg (by omega)]
    congr 1
    omega
  have hg : ∀ v, v < s.length → (S s).cps.getD v 0 = s.getD v 0 := fun v hv => by simp
  unfold findI
  cases e : (s.drop i.toNat).findIdx? (· == c) with
  | none =>
    rw [List.findIdx?_eq_none_iff] at e
    rcases PySem.StrLaws.find3_spec (S s) c i with ⟨h1, _⟩ | ⟨k, h1, h2, h3, h4, _⟩
    · exact h1
    · exfalso
      rw [hf] at h2
      rw [S_len] at h3
      rw [hg k h3] at h4
      have hm : s.getD k 0 ∈ s.drop i.toNat := by
        rw [List.getD_eq_getElem?_getD, List.getElem?_eq_getElem h3]
        simp only [Option.getD_some]
        rw [List.mem_drop_iff_getElem]
        exact ⟨k - i.toNat, by omega, by congr 1; omega⟩
      have := e _ hm
      rw [h4] at this
      simp at this
  | some j =>
    obtain ⟨hj, hj1, hj2⟩ := List.findIdx?_eq_some_iff_getElem.mp e
    rw [List.length_drop] at hj
    have hv : s.getD (i.toNat + j) 0 = c := by
      rw [List.getD_eq_getElem?_getD, List.getElem?_eq_getElem (by omega)]
      simp only [Option.getD_some]
      have := hj1
      rw [List.getElem_drop] at this
      simpa using this
    rcases PySem.StrLaws.find3_spec (S s) c i with ⟨_, h2⟩ | ⟨k, h1, h2, h3, h4, h5⟩
    · exfalso
      have := h2 (i.toNat + j) (by rw [hf]; omega) (by rw [S_len]; omega)
      rw [hg _ (by omega)] at this
      exact this hv
    · rw [h1]
      rw [hf] at h2
      rw [S_len] at h3
      rw [hg k h3] at h4
      have le1 : ¬ i.toNat + j < k := fun lt => by
        have := h5 (i.toNat + j) (by rw [hf]; omega) lt
        rw [hg _ (by omega)] at this
        exact this hv
      have le2 : ¬ k < i.toNat + j := fun lt => by
        have := hj2 (k - i.toNat) (by omega)
        rw [List.getElem_drop] at this
        have e2 : i.toNat + (k - i.toNat) = k := by omega
        simp only [e2] at this
        rw [List.getD_eq_getElem?_getD, List.getElem?_eq_getElem h3] at h4
        simp only [Option.getD_some] at h4
        rw [h4] at this
        simp at this
      have : k = i.toNat + j := by omega
      rw [this]
theorem ms_find {K : PySem.W.Frag} {mg : Str → Option Value} : MtS K mg (fun x xs H Q => ∃ (a b : Str) (i : Int), x = .str a ∧ xs = [.str b, .int i] ∧ Q (.int (PySem.Txt.find3 a b i)) H) rdFind := by
  intro F μ H v vs d ds Qd Q o w ws h k
  unfold rdFind at h
  split at h
  · obtain ⟨u, u', rfl, wk, wk'⟩ := ws.two
    refine ⟨_, _, _, w.str, by rw [wk.str, wk'.int], ?_⟩
    rw [find3_S _ _ _ h.1]
    exact fin0 o k (.int _) h.2
  · exact h.elim
end DL

namespace DL
open PySem PySem.Spec PyProof.Rows L2
section
variable {X : Cx} {B : Bs} {e o i : Expr} {es : List Expr} {d do' di : TED} {t : TAD} {p pos : Pos}
/-- a new list as one that changes -/
@[simp] def dM (d : TFD) : TED := fun ρ μ Q => d ρ μ fun xs μ1 => ∀ p, μ1 p = none → Q (.ref p) (sset μ1 p (.lst xs))
theorem de_M {d : TFD} (h : DF X e d) : DE X e (dM d) := h.weaken fun σ H Q q => by
  obtain ⟨F, ρ, μ, Qd, R, hd, k⟩ := q
  refine ⟨F, ρ, μ, _, R, hd, fun p vs F' μ' H' ds e o hn hf hm hh w q => ?_⟩
  refine k _ F' (sset μ' p (.lst ds)) H' _ ⟨e.mono, fun a x z n => ?_, e.live⟩ ⟨o.sub, fun a m z => ?_, fun a m z => ?_⟩ (.ref p) (q p hm)
  · obtain ⟨g1, g2, g3⟩ := e.keep a x z n
    have ha : a ≠ p := fun q => by subst q; rw [hn] at z; cases z
    exact ⟨g1, g2, by rw [sset_ne ha]; exact g3⟩
  · by_cases ha : a = p
    · subst ha; exact hf
    · rw [sset_ne ha] at z; exact o.dis a m z
  · by_cases ha : a = p
    · subst ha; rw [sset_same] at z; cases z; exact ⟨vs, hh, w⟩
    · rw [sset_ne ha] at z; exact o.sto a m z
/-- methods of lists that change: the arguments are kept -/
def MtT (K : PySem.W.Frag) (mg : Str → Option Value) (r : V → List V → Hp → VK → Prop) (rd : RDm) : Prop :=
  ∀ (F : Hp) (μ : Sto) (H : Hp) (v : V) (vs : List V) (d : D) (ds : List D) (Qd : DK) (Q : VK), Ok K mg F μ H → Wk K mg F μ H v d → Dts K mg F vs ds → rd d ds μ Qd →
    (∀ v F' μ' H' dv, Ext F μ H F' μ' H' → Ok K mg F' μ' H' → Dt K mg F' v dv → Qd dv μ' → Q v H') → r v vs H Q
section
variable {name : Str} {apos cpos : Pos} {T id : String} {r : V → List V → Hp → VK → Prop} {rd : RDm}
theorem de_mtA (pa : PlainAttrs T) (slot : Slot T name id) (hty : typeOf (.builtin id) = pure (.type "method_descriptor")) (hm : MtR X id r) (hs : MtT X.K X.mg r rd) (ho : DW X o d) (ha : DA X (e :: es) t)
    (hbase : attributeBase o name X.env (eval o X.env) = eval o X.env := by rfl)
    (hfew : ((backTo cpos (starEach (e :: es) X.env)).all (fun x => !x.1) && (backToKw cpos (keywordEach [] X.env)).all (fun x => x.1.isSome) && decide ((e :: es).length + ([] : List Keyword).length + (if ([] : List Keyword).isEmpty then 0 else 1) < 30)) = true := by rfl)
    (hline : (apos.endLine == cpos.line) = true := by rfl) (hst : starEach (e :: es) X.env = (false, eval e X.env) :: starEach es X.env := by rfl) (hplain : (backTo cpos (starEach es X.env)).any (·.1) = false := by rfl) :
    DE X (.Call (.Attribute o name apos) (e :: es) [] cpos) (dMt T rd d t) := (pe_bm pa slot hty hm ho ha hbase hfew hline hst hplain).weaken fun σ H Q q => by
  obtain ⟨F, ρ, μ, Qd, R, hd, k⟩ := q
  refine ⟨F, ρ, μ, _, R, hd, fun v F1 μ1 H1 dv e1 o1 w1 q1 => ⟨w1.ty' o1 q1.1, F1, ρ, μ1, _, R.ext e1 o1, q1.2, fun vs F2 μ2 H2 ds e2 o2 w2 q2 => ?_⟩⟩
  exact hs F2 μ2 H2 v vs dv ds Qd Q o2 (w1.ext e2) w2 q2 fun z F3 μ3 H3 dz e3 o3 w3 q3 => k z F3 μ3 H3 dz (e1.trans (e2.trans e3)) o3 w3 q3
end
def rdApp : RDm
  | .ref a, [y], μ, Q => ∃ xs, μ a = some (.lst xs) ∧ xs.length < SZ ∧ Q .non (sset μ a (.lst (xs ++ [y])))
  | _, _, _, _ => False
@[simp] theorem rdApp_1 : rdApp  (.ref a0) [y0] μ0 Q0 = (∃ xs, μ0 a0 = some (.lst xs) ∧ xs.length < SZ ∧ Q0 .non (sset μ0 a0 (.lst (xs ++ [y0])))) := rfl
theorem mtt_app {K : PySem.W.Frag} {mg : Str → Option Value} : MtT K mg rAppend rdApp := by
  intro F μ H v vs d ds Qd Q o w ws h k
  unfold rdApp at h
  split at h
  · cases ws with
    | cons wy r =>
      cases r
      obtain ⟨xs, hx, hl, q⟩ := h
      cases w.ref
      obtain ⟨us, ha, ru⟩ := o.sto _ _ hx
      have hn := (ru.append (.one wy))
      obtain ⟨g1, g2⟩ := o.write hx (.lst (us ++ [_])) (.lst (xs ++ [_])) ⟨_, upd_same, hn⟩
      exact ⟨_, us, _, rfl, rfl, ha, by rw [ru.length, sizeLine_eq]; exact hl, k _ _ _ _ _ g2 g1 .non q⟩
  · exact h.elim
/-- pop() -/
def rdPop0 : RDm
  | .ref a, [], μ, Q => ∃ xs y, μ a = some (.lst xs) ∧ xs[xs.length - 1]? = some y ∧ Q y (sset μ a (.lst xs.dropLast))
  | _, _, _, _ => False
@[simp] theorem rdPop0_1 : rdPop0  (.ref a0) [] μ0 Q0 = (∃ xs y, μ0 a0 = some (.lst xs) ∧ xs[xs.length - 1]? = some y ∧ Q0 y (sset μ0 a0 (.lst xs.dropLast))) := rfl
/-- pop(i) -/
def rdPopAt : RDm
  | .ref a, [.int i], μ, Q => ∃ xs j y, μ a = some (.lst xs) ∧ -9223372036854775808 ≤ i ∧ i < 9223372036854775808 ∧ seqIndex? i xs.length = some j ∧ xs[j]? = some y ∧ Q y (sset μ a (.lst (xs.eraseIdx j)))
  | _, _, _, _ => False
@[simp] theorem rdPopAt_1 : rdPopAt  (.ref a0) [.int i0] μ0 Q0 = (∃ xs j y, μ0 a0 = some (.lst xs) ∧ -9223372036854775808 ≤ i0 ∧ i0 < 9223372036854775808 ∧ seqIndex? i0 xs.length = some j ∧ xs[j]? = some y ∧ Q0 y (sset μ0 a0 (.lst (xs.eraseIdx j)))) := rfl
theorem Dts.eraseIdx {K : PySem.W.Frag} {mg : Str → Option Value} {F : Hp} : ∀ {vs : List V} {ds : List D} (n : Nat), Dts K mg F vs ds → Dts K mg F (vs.eraseIdx n) (ds.eraseIdx n)
  | _, _, _, .nil => .nil
  | _, _, 0, .cons _ t => t
  | _, _, n + 1, .cons q t => .cons q (Dts.eraseIdx n t)
theorem Dts.dropLast {K : PySem.W.Frag} {mg : Str → Option Value} {F : Hp} {vs : List V} {ds : List D} (h : Dts K mg F vs ds) : Dts K mg F vs.dropLast ds.dropLast := by
  rw [List.dropLast_eq_take, List.dropLast_eq_take, h.length]
  exact h.take _
/-- o a list that changes -/
@[simp] def dPutM (d o i : TED) : TSD := fun E ρ μ => d ρ μ fun y μ1 => o ρ μ1 fun x μ2 => i ρ μ2 fun k μ3 => ∃ a xs n j, x = .ref a ∧ k = .int n ∧ μ3 a = some (.lst xs) ∧ ixN xs.length n = some j ∧ E.nx ρ (sset μ3 a (.lst (xs.set j y)))
theorem ds_putM {spos : Pos} (he : DE X e d) (ho : DE X o do') (hi : DW X i di)
    (ha : ∀ v, assign (.Subscript o i spos) X.env v = (do
      let ov ← holding [v] (eval o X.env)
      let iv ← holding [v, ov] (eval i X.env)
      standAt spos
      holding [v, ov, iv] (setItem ov iv v)
      release [v, ov, iv] []) := by intro _; rfl)
    (hs : swapsWithSole [.Subscript o i spos] e pos.line X.env = pure false := by rfl) (hw : swappedStores [.Subscript o i spos] e X.env = pure none := by rfl) (h1 : (assignEach [.Subscript o i spos] X.env).map (·.2) = [assign (.Subscript o i spos) X.env] := by rfl) :
    DSt X B (.Assign [.Subscript o i spos] e pos) (dPutM d do' di) := (ps_asg he (pg_sub ho hi set_list ha) hs hw h1).weaken fun E σ H h => by
  obtain ⟨F, ρ, μ, Dd, R, hd, kn, kb, kc, kr⟩ := h
  refine ⟨F, ρ, μ, _, R.rel, hd, fun v F1 μ1 H1 dv e1 o1 w1 q1 => ?_⟩
  refine ⟨F1, ρ, μ1, _, R.rel.ext e1 o1, q1, fun u F2 μ2 H2 du e2 o2 w2 q2 => ?_⟩
  refine ⟨F2, ρ, μ2, _, R.rel.ext (e1.trans e2) o2, q2, fun z F3 μ3 H3 dz e3 o3 w3 q3 => ?_⟩
  obtain ⟨a, xs, n, j, rfl, rfl, hx, hj, q⟩ := q3
  cases w2
  obtain ⟨us, hus, ru⟩ := o3.sto _ _ hx
  have e13 := e1.trans (e2.trans e3)
  obtain ⟨g1, g2⟩ := o3.write hx (.lst (us.set j v)) (.lst (xs.set j dv)) ⟨_, upd_same, ru.set ((w1.mono e2.mono).mono e3.mono) j⟩
  exact ⟨a, us, n, j, rfl, w3.int, hus, by rw [ru.length]; exact hj, kn F3 ρ _ σ _ (e13.trans g2).mono (R.step (e13.trans g2) g1) q⟩
/-- o a name of a list of the frame's own -/
@[simp] def dPut (sl : Nat) (d i : TED) : TSD := fun E ρ μ => ∃ xs, ρ[sl]? = some (some (.own xs)) ∧ d ρ μ fun y μ1 => i ρ μ1 fun k μ2 => ∃ n j, k = .int n ∧ ixN xs.length n = some j ∧ E.nx (ρ.set sl (some (.own (xs.set j y)))) μ2
end
end DL

namespace DL
open PySem PySem.Spec PyProof.Rows L2
section
variable {X : Cx} {e : Expr} {d : TED} {t : TAD} {p pos : Pos}
@[simp] def dRev (d : TED) : TED := fun ρ μ Q => d ρ μ fun x μ1 => match x with
  | .str s => s.length ≤ SZ ∧ Q (.str s.reverse) μ1
  | _ => False
@[simp] def dRevL (d : TED) : TED := fun ρ μ Q => d ρ μ fun x μ1 => ∃ xs, lstOf μ1 x = some xs ∧ Q (.lst xs.reverse) μ1
end
end DL

namespace DL
open PySem PySem.Spec PyProof.Rows L2
theorem forD_inv {g : TGD} {body : TSD} {E : DEnds} {inv : Sto → Prop} (P : List D → DEnv → Sto → Prop) (hi : ∀ xs ρ μ, P xs ρ μ → inv μ)
    (step : ∀ x xs ρ μ (n : DEnv → Sto → Prop), P (x :: xs) ρ μ → (∀ ρ' μ', P xs ρ' μ' → n ρ' μ') → g x ρ fun ρ1 => body { E with nx := n, ct := n, bk := E.nx } ρ1 μ) (done : ∀ ρ μ, P [] ρ μ → E.nx ρ μ) :
    ∀ items ρ μ, P items ρ μ → forD g body E inv items ρ μ := by
  intro items
  induction items with
  | nil => intro ρ μ h; exact ⟨hi _ _ _ h, done ρ μ h⟩
  | cons x xs ih => intro ρ μ h; exact ⟨hi _ _ _ h, step x xs ρ μ _ h ih⟩
/-- over a range from 0 -/
theorem forD_rng {g : TGD} {body : TSD} {E : DEnds} {n : Nat} (P : Nat → DEnv → Sto → Prop)
    (step : ∀ (i : Nat) ρ μ (k : DEnv → Sto → Prop), i < n → P i ρ μ → (∀ ρ' μ', P (i + 1) ρ' μ' → k ρ' μ') → g (.int i) ρ fun ρ1 => body { E with nx := k, ct := k, bk := E.nx } ρ1 μ) (done : ∀ ρ μ, P n ρ μ → E.nx ρ μ)
    {ρ : DEnv} {μ : Sto} (h0 : P 0 ρ μ) : forD g body E still (rngD 0 n) ρ μ := by
  refine forD_inv (fun xs ρ μ => ∃ i, i ≤ n ∧ xs = (rngD 0 n).drop i ∧ P i ρ μ) (fun _ _ _ _ => trivial) ?_ ?_ _ _ _ ⟨0, Nat.zero_le _, rfl, h0⟩
  · rintro x xs ρ μ k ⟨i, hi, e, hP⟩ hk
    have hl : (rngD 0 n).length = n := by simp [rngD]
    have hlt : i < n := by
      apply Decidable.byContradiction
      intro hc
      rw [List.drop_eq_nil_of_le (by omega)] at e
      cases e
    have hd := List.drop_eq_getElem_cons (l := rngD 0 n) (i := i) (by omega)
    rw [← e] at hd
    have hx : x = .int i := by
      rw [(List.cons.inj hd).1]
      simp [rngD]
    subst hx
    exact step i ρ μ k hlt hP fun ρ' μ' h => hk ρ' μ' ⟨i + 1, hlt, (List.cons.inj hd).2, h⟩
  · rintro ρ μ ⟨i, hi, e, hP⟩
    have hl : (rngD 0 n).length = n := by simp [rngD]
    have : i = n := by
      apply Decidable.byContradiction
      intro hc
      have hd := List.drop_eq_getElem_cons (l := rngD 0 n) (i := i) (by omega)
      rw [← e] at hd
      cases hd
    subst this
    exact done ρ μ hP
theorem dWhile_inv {c : TTD} {body : TSD} {E : DEnds} (P : Nat → DEnv → Sto → Prop)
    (step : ∀ m ρ μ (n : DEnv → Sto → Prop), P m ρ μ → (∀ m', m' < m → ∀ ρ' μ', P m' ρ' μ' → n ρ' μ') → c ρ μ fun b μ1 => if b = true then ∃ N : DEnv → Sto → Prop, (∀ ρ' μ', N ρ' μ' → ∃ m', m' < m ∧ P m' ρ' μ') ∧ body { E with nx := N, ct := N, bk := E.nx } ρ μ1 else E.nx ρ μ1)
    {ρ : DEnv} {μ : Sto} (m : Nat) (h : P m ρ μ) : dWhile c body E ρ μ := ⟨P, ⟨m, h⟩, fun m ρ μ hp => step m ρ μ (fun _ _ => True) hp fun _ _ _ _ _ => trivial⟩
theorem lcD_inv {vs : List Nat} {g : TGD} {c : TTD} {el : TED} {ρ : DEnv} {inv : Sto → Prop} {Q : List D → Sto → Prop} (P : List D → List D → Sto → Prop) (hi : ∀ xs acc μ, P xs acc μ → inv μ)
    (step : ∀ x xs acc μ (n : List D → Sto → Prop), P (x :: xs) acc μ → (∀ acc' μ', P xs acc' μ' → n acc' μ') → g x (wipeD ρ vs) fun ρ1 => c ρ1 μ fun b μ1 => if b = true then el ρ1 μ1 fun y μ2 => acc.length < SZ ∧ n (acc ++ [y]) μ2 else n acc μ1)
    (done : ∀ acc μ, P [] acc μ → Q acc μ) : ∀ items acc μ, P items acc μ → lcD vs g c el ρ inv Q items acc μ := by
  intro items
  induction items with
  | nil => intro acc μ h; exact ⟨hi _ _ _ h, done acc μ h⟩
  | cons x xs ih => intro acc μ h; exact ⟨hi _ _ _ h, step x xs acc μ (fun a m => lcD vs g c el ρ inv Q xs a m) h ih⟩
/-- each item gives one, nothing changes -/
theorem lcD_map {vs : List Nat} {g : TGD} {el : TED} {ρ : DEnv} {Q : List D → Sto → Prop} {μ : Sto} (f : D → D) (items : List D) (hl : items.length ≤ SZ)
    (step : ∀ x ∈ items, ∀ k : D → Sto → Prop, k (f x) μ → g x (wipeD ρ vs) fun ρ1 => el ρ1 μ k) (done : Q (items.map f) μ) : lcD vs g dYes el ρ still Q items [] μ := by
  refine lcD_inv (fun xs acc μ' => μ' = μ ∧ ∃ pre, items = pre ++ xs ∧ acc = pre.map f) (fun _ _ _ _ => trivial) ?_ ?_ items [] μ ⟨rfl, [], rfl, rfl⟩
  · rintro x xs acc μ' n ⟨rfl, pre, e, rfl⟩ hn
    refine step x (by rw [e]; simp) _ ⟨?_, hn _ _ ⟨rfl, pre ++ [x], by simp [e], by simp⟩⟩
    rw [e] at hl
    simp at hl ⊢
    omega
  · rintro acc μ' ⟨rfl, pre, e, rfl⟩
    rw [List.append_nil] at e
    subst e
    exact done
theorem strD_cons (c : Nat) (s : List Nat) : strD (c :: s) = .str [c] :: strD s := rfl
theorem strD_inv {x : D} {xs : List D} {s : List Nat} (h : x :: xs = strD s) : ∃ c r, s = c :: r ∧ x = .str [c] ∧ xs = strD r := by
  cases s with
  | nil => cases h
  | cons c r => rw [strD_cons] at h; cases h; exact ⟨c, r, rfl, rfl, rfl⟩
theorem strD_nil_inv {s : List Nat} (h : [] = strD s) : s = [] := by
  cases s with
  | nil => rfl
  | cons c r => cases h
end DL

namespace DL
open PySem PySem.Spec PyProof.Rows L2
mutual
/-- data of which repr and == speak -/
def D.ic : D → Prop
  | .non => True
  | .bl _ => True
  | .int i => i.natAbs < 2 ^ 300
  | .str s => ∀ c ∈ s, c < 1114112
  | .tup xs => D.ics xs
  | .lst xs => D.ics xs
  | .dct _ => False | .scr _ => False | .ref _ => False | .ty _ => False | .gl _ => False | .pr _ _ => False | .obj _ _ => False | .exn _ _ => False
def D.ics : List D → Prop
  | [] => True
  | x :: xs => x.ic ∧ D.ics xs
end
mutual
def D.wt : D → Nat
  | .int _ => 300
  | .str s => s.length
  | .tup xs => D.wts xs
  | .lst xs => D.wts xs
  | .non => 0 | .bl _ => 0 | .dct _ => 0 | .scr _ => 0 | .ref _ => 0 | .ty _ => 0 | .gl _ => 0 | .pr _ _ => 0 | .obj _ _ => 0 | .exn _ _ => 0
def D.wts : List D → Nat
  | [] => 0
  | x :: xs => x.wt + 1 + D.wts xs
end
mutual
def D.dp : D → Nat
  | .tup xs => D.dps xs + 1
  | .lst xs => D.dps xs + 1
  | .int _ => 0 | .str _ => 0 | .non => 0 | .bl _ => 0 | .dct _ => 0 | .scr _ => 0 | .ref _ => 0 | .ty _ => 0 | .gl _ => 0 | .pr _ _ => 0 | .obj _ _ => 0 | .exn _ _ => 0
def D.dps : List D → Nat
  | [] => 0
  | x :: xs => max x.dp (D.dps xs)
end
theorem log_lt {n k : Nat} (hk : 0 < k) (h : n < 2 ^ k) : n.log2 < k := by
  by_cases h0 : n = 0
  · subst h0; simpa using hk
  · exact (Nat.log2_lt h0).mpr h
theorem S_all {s : List Nat} (h : ∀ c ∈ s, c < 1114112) : (S s).cps.all (· < 0x110000) = true := by
  show s.toArray.all _ = true
  rw [List.all_toArray, List.all_eq_true]
  intro c hc
  simpa using h c hc
mutual
theorem D.ic_all : ∀ d : D, d.ic → d.shows = true ∧ d.py.canLay0 = true ∧ d.py.intsShort 302 = true ∧ d.py.weight ≤ d.wt ∧ d.py.depth = d.dp
  | .non, _ => ⟨rfl, rfl, rfl, Nat.le_refl _, rfl⟩
  | .bl _, _ => ⟨rfl, rfl, rfl, Nat.le_refl _, rfl⟩
  | .int i, h => by
    have hl := log_lt (by decide) h
    refine ⟨?_, rfl, ?_, ?_, rfl⟩
    · show decide _ = true
      simp only [decide_eq_true_eq]
      omega
    · show decide _ = true
      simp only [decide_eq_true_eq]
      have := int_text_length_le (a := i) (k := 300) (by decide) hl
      have e : (PyData.shown (.int i)).length = (toString i).length := by
        show (Str.ofString (toString i)).length = _
        rw [PySem.ofString_length]
      rw [e]
      omega
    · show (if i == 0 then 0 else _) ≤ 300
      split <;> omega
  | .str s, h => by
    refine ⟨rfl, S_all h, rfl, ?_, rfl⟩
    show s.toArray.size ≤ s.length
    simp
  | .tup xs, h => by
    obtain ⟨a, b, c, e, f⟩ := D.ics_all xs h
    exact ⟨a, b, c, e, by show _ + 1 = _ + 1; rw [f]⟩
  | .lst xs, h => by
    obtain ⟨a, b, c, e, f⟩ := D.ics_all xs h
    exact ⟨a, b, c, e, by show _ + 1 = _ + 1; rw [f]⟩
  | .dct _, h => h.elim
  | .scr _, h => h.elim
  | .ref _, h => h.elim
  | .ty _, h => h.elim
  | .gl _, h => h.elim
  | .pr _ _, h => h.elim
  | .obj _ _, h => h.elim
  | .exn _ _, h => h.elim
theorem D.ics_all : ∀ ds : List D, D.ics ds → D.showsAll ds = true ∧ PyData.canLayAll0 (D.pys ds) = true ∧ PyData.intsShortAll 302 (D.pys ds) = true ∧ PyData.weightAll (D.pys ds) ≤ D.wts ds ∧ PyData.depthAll (D.pys ds) = D.dps ds
  | [], _ => ⟨rfl, rfl, rfl, Nat.le_refl _, rfl⟩
  | x :: xs, h => by
    obtain ⟨a, b, c, e, f⟩ := D.ic_all x h.1
    obtain ⟨a', b', c', e', f'⟩ := D.ics_all xs h.2
    refine ⟨?_, ?_, ?_, ?_, ?_⟩
    · show (x.shows && D.showsAll xs) = true
      rw [a, a']; rfl
    · show (x.py.canLay0 && PyData.canLayAll0 (D.pys xs)) = true
      rw [b, b']; rfl
    · show (x.py.intsShort 302 && PyData.intsShortAll 302 (D.pys xs)) = true
      rw [c, c']; rfl
    · show x.py.weight + 1 + PyData.weightAll (D.pys xs) ≤ x.wt + 1 + D.wts xs
      omega
    · show max x.py.depth (PyData.depthAll (D.pys xs)) = max x.dp (D.dps xs)
      rw [f, f']
end
theorem okEq_of {x y : D} (hx : x.ic) (hy : y.ic) (dx : x.dp ≤ 50) (dy : y.dp ≤ 50) : okEq x y := by
  have sh : ∀ d : D, d.ic → d.dp ≤ 50 → d.flat = true ∧ SeqAt.shaped d.py = true := fun d h hd => by
    obtain ⟨a, b, c, e, f⟩ := D.ic_all d h
    refine ⟨(D.shows_flat d a).1, ?_⟩
    unfold SeqAt.shaped
    rw [b]
    simp only [Bool.true_and, decide_eq_true_eq]
    omega
  exact .inr ⟨(sh x hx dx).1, (sh y hy dy).1, (sh x hx dx).2, (sh y hy dy).2⟩
@[simp] theorem okEq_int (i j : Int) : okEq (.int i) (.int j) := .inl rfl
@[simp] theorem okEq_str (s t : List Nat) : okEq (.str s) (.str t) := .inl rfl
@[simp] theorem okEq_bl (a b : Bool) : okEq (.bl a) (.bl b) := okEq_of trivial trivial (Nat.zero_le _) (Nat.zero_le _)
theorem dps_le {k : Nat} : ∀ xs : List D, (∀ x ∈ xs, x.dp ≤ k) → D.dps xs ≤ k
  | [], _ => by simp [D.dps]
  | x :: xs, h => by
    have h1 := h x (by simp)
    have h2 := dps_le xs fun y hy => h y (by simp [hy])
    simp only [D.dps]
    omega
@[simp] theorem eqv_int (i j : Int) : D.eqv (.int i) (.int j) = decide (i = j) := by
  show (i == j) = _
  by_cases h : i = j <;> simp [h]
@[simp] theorem eqv_str (s t : List Nat) : D.eqv (.str s) (.str t) = decide (s = t) := by
  show (S s == S t) = _
  by_cases h : s = t
  · simp [h]
  · have : S s ≠ S t := fun e => h (S_inj.mp e)
    simp [h, this]
@[simp] theorem eqv_bl (a b : Bool) : D.eqv (.bl a) (.bl b) = (a == b) := rfl
@[simp] theorem eqv_non : D.eqv .non .non = true := rfl
def D.eqvs : List D → List D → Bool
  | [], [] => true
  | x :: xs, y :: ys => D.eqv x y && D.eqvs xs ys
  | _, _ => false
theorem eqvs_py : ∀ xs ys : List D, PyData.eqvAll (D.pys xs) (D.pys ys) = D.eqvs xs ys
  | [], [] => rfl
  | x :: xs, [] => rfl
  | [], y :: ys => rfl
  | x :: xs, y :: ys => by
    show (PyData.eqv x.py y.py && PyData.eqvAll (D.pys xs) (D.pys ys)) = _
    rw [eqvs_py xs ys]; rfl
@[simp] theorem eqv_lst (xs ys : List D) : D.eqv (.lst xs) (.lst ys) = D.eqvs xs ys := eqvs_py xs ys
@[simp] theorem eqv_tup (xs ys : List D) : D.eqv (.tup xs) (.tup ys) = D.eqvs xs ys := eqvs_py xs ys
@[simp] theorem eqvs_nil : D.eqvs [] [] = true := rfl
@[simp] theorem eqvs_cons (x y : D) (xs ys : List D) : D.eqvs (x :: xs) (y :: ys) = (D.eqv x y && D.eqvs xs ys) := rfl
theorem eqvs_nil_r (xs : List D) : D.eqvs xs [] = decide (xs = []) := by cases xs <;> rfl
abbrev nats (l : List Nat) : List D := l.map fun (n : Nat) => D.int n
theorem ints_flat : ∀ l : List Int, D.flats (l.map D.int) = true ∧ PyData.canLayAll0 (D.pys (l.map D.int)) = true ∧ PyData.depthAll (D.pys (l.map D.int)) = 0
  | [] => ⟨rfl, rfl, rfl⟩
  | x :: l => by
    obtain ⟨a, b, c⟩ := ints_flat l
    refine ⟨a, b, ?_⟩
    show max 0 (PyData.depthAll (D.pys (l.map D.int))) = 0
    rw [c]; rfl
/-- lists of whole numbers of any size may be compared -/
theorem okEq_ints (l r : List Int) : okEq (.lst (l.map D.int)) (.lst (r.map D.int)) := by
  have sh : ∀ l : List Int, SeqAt.shaped (D.lst (l.map D.int)).py = true := fun l => by
    obtain ⟨a, b, c⟩ := ints_flat l
    show (PyData.canLayAll0 (D.pys (l.map D.int)) && decide (PyData.depthAll (D.pys (l.map D.int)) + 1 ≤ 64)) = true
    rw [b, c]; rfl
  exact .inr ⟨(ints_flat l).1, (ints_flat r).1, sh l, sh r⟩
@[simp] theorem ixN_nat {n i : Nat} (h : i < n) : ixN n (i : Int) = some i := by
  unfold ixN
  rw [if_pos (by omega), if_pos (by omega)]
  rfl
theorem atI_nat {α : Type} (xs : List α) (i : Nat) : atI xs (i : Int) = xs[i]? := by
  unfold L2.atI
  by_cases h : i < xs.length
  · rw [ixN_nat h]; rfl
  · have : ixN xs.length (i : Int) = none := by
      unfold ixN
      rw [if_pos (by omega), if_neg (by omega)]
    rw [this, List.getElem?_eq_none (by omega)]
    rfl
theorem atI_of {α : Type} {xs : List α} {i : Int} (h0 : 0 ≤ i) (h1 : i < xs.length) : ∃ x, atI xs i = some x ∧ x ∈ xs := by
  obtain ⟨n, rfl⟩ := Int.eq_ofNat_of_zero_le h0
  rw [atI_nat]
  have hn : n < xs.length := by omega
  exact ⟨xs[n], List.getElem?_eq_getElem hn, List.getElem_mem hn⟩
@[simp] theorem atI_0 {α : Type} (x : α) (xs : List α) : atI (x :: xs) 0 = some x := atI_nat (x :: xs) 0
@[simp] theorem atI_1 {α : Type} (x y : α) (xs : List α) : atI (x :: y :: xs) 1 = some y := atI_nat (x :: y :: xs) 1
@[simp] theorem atI_2 {α : Type} (x y z : α) (xs : List α) : atI (x :: y :: z :: xs) 2 = some z := atI_nat (x :: y :: z :: xs) 2
@[simp] theorem ixN_0 (n : Nat) : ixN (n + 1) 0 = some 0 := ixN_nat (n := n + 1) (i := 0) (by omega)
@[simp] theorem ixN_1 (n : Nat) : ixN (n + 2) 1 = some 1 := ixN_nat (n := n + 2) (i := 1) (by omega)
@[simp] theorem ixN_2 (n : Nat) : ixN (n + 3) 2 = some 2 := ixN_nat (n := n + 3) (i := 2) (by omega)
theorem cut_take {α : Type} (l : List α) (n : Nat) : cut l none (some (n : Int)) = l.take n := by
  unfold cut
  rw [HT.sIx_nat, HT.sIx_none, List.drop_zero, Nat.sub_zero]
  by_cases h : n ≤ l.length
  · rw [Nat.min_eq_left h]
  · rw [Nat.min_eq_right (by omega), List.take_of_length_le (Nat.le_refl _), List.take_of_length_le (by omega)]
theorem cut_drop {α : Type} (l : List α) (n : Nat) : cut l (some (n : Int)) none = l.drop n := by
  unfold cut
  rw [HT.sIx_nat, HT.sIx_none]
  by_cases h : n ≤ l.length
  · rw [Nat.min_eq_left h, List.take_of_length_le (by simp)]
  · rw [Nat.min_eq_right (by omega), List.drop_eq_nil_of_le (by omega), List.drop_eq_nil_of_le (by omega)]
    simp
end DL

namespace DL
open PySem PySem.Spec PyProof.Rows L2
/-- the jar at j, its cells at c, at most b draws so far -/
def Jar (j c : Addr) (b : Nat) (μ : Sto) : Prop := ∃ (n : Nat) (cells : List Nat), n ≤ b ∧ j ≠ c ∧ μ j = some (.lst [.ref c, .int n]) ∧ μ c = some (.lst (cells.map fun x : Nat => D.int x)) ∧ cells.length ≤ 63
/-- nothing else has changed -/
def Same (j c : Addr) (μ μ' : Sto) : Prop := ∀ a, a ≠ j → a ≠ c → μ' a = μ a
theorem Jar.le {j c : Addr} {b b' : Nat} {μ : Sto} (h : Jar j c b μ) (le : b ≤ b') : Jar j c b' μ := by
  obtain ⟨n, cells, hn, r⟩ := h
  exact ⟨n, cells, Nat.le_trans hn le, r⟩
theorem Same.refl {j c : Addr} {μ : Sto} : Same j c μ μ := fun _ _ _ => rfl
theorem Same.trans {j c : Addr} {μ μ1 μ2 : Sto} (h : Same j c μ μ1) (g : Same j c μ1 μ2) : Same j c μ μ2 := fun a x y => (g a x y).trans (h a x y)
/-- what a drawing def promises: from a jar of at most b draws (b small) to one of at most b + k, result as R says -/
def drawSp (k : Nat) (pre : List D → (D → Prop) → Prop) : DSp := fun ds μ Q _ => ∃ j c b r, ds = .ref j :: r ∧ Jar j c b μ ∧ b + k ≤ 1000000 ∧ ∃ R, pre r R ∧ ∀ d μ', R d → Jar j c (b + k) μ' → Same j c μ μ' → Q d μ'
/-- since μ0: a jar of at most b draws, nothing else changed -/
def St (j c : Addr) (μ0 : Sto) (b : Nat) (μ : Sto) : Prop := Jar j c b μ ∧ Same j c μ0 μ
theorem St.le {j c : Addr} {b b' : Nat} {μ0 μ : Sto} (h : St j c μ0 b μ) (le : b ≤ b') : St j c μ0 b' μ := ⟨h.1.le le, h.2⟩
theorem draw_ok {k : Nat} {pre : List D → (D → Prop) → Prop} {j c : Addr} {b : Nat} {μ0 μ : Sto} {r : List D} {R : D → Prop} {Q : DK} {E : DXK} (h : St j c μ0 b μ) (hb : b + k ≤ 1000000) (hp : pre r R)
    (q : ∀ d μ', R d → St j c μ0 (b + k) μ' → Q d μ') : drawSp k pre (.ref j :: r) μ Q E := ⟨j, c, b, r, rfl, h.1, hb, R, hp, fun d μ' h1 h2 h3 => q d μ' h1 ⟨h2, h.2.trans h3⟩⟩
/-- the items of a list, a tuple, a text -/
inductive Items : D → List D → Prop
  | lst {xs : List D} : Items (.lst xs) xs
  | tup {xs : List D} : Items (.tup xs) xs
  | str {s : List Nat} : s.length ≤ SZ → Items (.str s) (strD s)
/-- a word of small letters -/
def Low (s : List Nat) : Prop := ∀ c ∈ s, 97 ≤ c ∧ c ≤ 122
theorem flat_ones : ∀ l : List Nat, (l.map fun c => [c]).flatten = l
  | [] => rfl
  | a :: r => by
    show [a] ++ (r.map fun c => [c]).flatten = a :: r
    rw [flat_ones r]; rfl
theorem joinL_nil (ls : List (List Nat)) : joinL [] ls = ls.flatten := by
  cases ls with
  | nil => rfl
  | cons a r =>
    show a ++ (r.map fun x => [] ++ x).flatten = (a :: r).flatten
    rw [List.flatten_cons]
    congr 2
    exact List.map_id' r
theorem joinL_ones (l : List Nat) : joinL [] (l.map fun c => [c]) = l := by rw [joinL_nil, flat_ones]
theorem Low.append {s t : List Nat} (h : Low s) (g : Low t) : Low (s ++ t) := fun c hc => (List.mem_append.mp hc).elim (h c) (g c)
theorem Low.take {s : List Nat} (h : Low s) (n : Nat) : Low (s.take n) := fun c hc => h c (List.mem_of_mem_take hc)
theorem Low.reverse {s : List Nat} (h : Low s) : Low s.reverse := fun c hc => h c (List.mem_reverse.mp hc)
theorem Low.repl {s : List Nat} (h : Low s) (n : Nat) : Low (repl n s) := fun c hc => by
  unfold DL.repl at hc
  obtain ⟨l, hl, hc⟩ := List.mem_flatten.mp hc
  rw [(List.mem_replicate.mp hl).2] at hc
  exact h c hc
theorem Low.lt {s : List Nat} (h : Low s) : ∀ c ∈ s, c < 1114112 := fun c hc => by have := h c hc; omega
/-- a text is joined from its signs -/
theorem sum_ones (l : List Nat) : ((l.map fun c => [c]).map List.length).sum = l.length := by
  induction l with
  | nil => rfl
  | cons a r ih => simp at ih ⊢; omega
theorem strD_map (l : List Nat) : strD l = (l.map fun c => [c]).map D.str := by unfold strD; rw [List.map_map]; rfl
theorem strD_app (l r : List Nat) : strD (l ++ r) = strD l ++ strD r := by simp [strD]
end DL

namespace DL
open PySem PySem.Spec PyProof.Rows L2
/-- the first pick, from a place on: places -/
def fp (one : List Nat) : List Nat → Nat → List Nat
  | [], _ => []
  | c :: r, b => match (one.drop b).findIdx? (· == c) with
    | some k => (b + k) :: fp one r (b + k + 1)
    | none => []

def sp_first_pick : DSp := fun ds μ Q _ => ∃ one other : List Nat, ds = [.str one, .str other] ∧ one.length ≤ 1000 ∧ other.length ≤ 1000 ∧ Q (.tup (nats (fp one other 0))) μ
/-- first_pick(one, other); slots 0:one 1:other 2:found 3:begin 4:letter 5:place -/
def b_first_pick : TSD :=
  (dSeq (dSetR 2 (dOwn (dLstF dNil)))
  (dSeq (dSetR 3 (dVal (dC (.int 0))))
  (dSeq (dFor (dEach (dVar 1)) (dName 4)
  (dSeq (dSetR 5 (dVal (dMt "str" rdFind (dLook 0) (dCons (dLook 4) (dCons (dLook 3) dNil)))))
  (dSeq (dIfS (dB (dOp rdLt (dLook 5) (dC (.int 0))))
  dBreak
  dNext)
  (dSeq (dApp 2 (dVar 5))
  (dSetR 3 (dVal (dOp rdAdd (dLook 5) (dC (.int 1)))))))))
  (dRet (dFn rdTuple (dCons (dLook 2) dNil))))))
theorem len_first_pick : ∀ ds μ Q E, sp_first_pick ds μ Q E → ds.length = 2 := by
  rintro ds μ Q E ⟨one, other, rfl, _⟩; rfl
theorem fp_cons (one : List Nat) (c : Nat) (r : List Nat) (b : Nat) : fp one (c :: r) b = match (one.drop b).findIdx? (· == c) with
    | some k => (b + k) :: fp one r (b + k + 1)
    | none => [] := rfl
theorem ok_first_pick : ∀ ds μ Q E, sp_first_pick ds μ Q E → b_first_pick { nx := fun _ μ' => Q .non μ', rt := Q } (startD 6 ds) μ := by
  rintro ds μ Q E ⟨one, other, rfl, h1, h2, q⟩
  simp [b_first_pick]
  refine forD_inv (fun xs ρ μ' => μ' = μ ∧ ∃ rest pre b L z x4 x5, xs = strD rest ∧ ρ = [some (.val (.str one)), some (.val (.str other)), some (.own L), some (.val (.int z)), x4, x5] ∧ L = nats pre ∧ z = ((b : Nat) : Int) ∧ pre ++ fp one rest b = fp one other 0 ∧ pre.length + rest.length ≤ 1000)
    (fun _ _ _ _ => trivial) ?_ ?_ _ _ _ ⟨rfl, other, [], 0, [], 0, none, none, rfl, rfl, rfl, rfl, rfl, by simpa using h2⟩
  · rintro x xs ρ μ' n ⟨rfl, rest, pre, b, L, z, x4, x5, hx, rfl, rfl, rfl, hp, hl⟩ hn
    obtain ⟨c, r, rfl, rfl, rfl⟩ := strD_inv hx
    rw [fp_cons] at hp
    simp [findI]
    cases e : (one.drop b).findIdx? (· == c) with
    | none =>
      rw [e] at hp
      simp at hp
      simp
      rw [hp]
      simpa [rdTuple, seqOf] using q
    | some k =>
      rw [e] at hp
      simp at hl
      simp [show ¬ ((b : Int) + k < 0) by omega]
      refine ⟨by omega, hn _ _ ⟨rfl, r, pre ++ [b + k], b + k + 1, _, _, _, _, rfl, rfl, by simp, by simp, by simpa using hp, by simp; omega⟩⟩
  · rintro ρ μ' ⟨rfl, rest, pre, b, L, z, x4, x5, hx, rfl, rfl, rfl, hp, hl⟩
    cases strD_nil_inv hx
    simp [fp] at hp
    simp [rdTuple, seqOf, hp]
    exact q
theorem fp_le (one : List Nat) : ∀ r b, (fp one r b).length ≤ r.length
  | [], _ => Nat.le_refl _
  | c :: r, b => by
    rw [fp_cons]
    split
    · have := fp_le one r (b + by assumption + 1)
      simp
      exact fp_le one r _
    · simp
def sp_count_picked : DSp := fun ds μ Q _ => ∃ one other : List Nat, ds = [.str one, .str other] ∧ one.length ≤ 1000 ∧ other.length ≤ 1000 ∧ Q (.int (fp one other 0).length) μ
/-- count_picked(one, other); slots 0:one 1:other -/
def b_count_picked : TSD :=
  (dRet (dFn rdLen (dCons (dCall sp_first_pick (dCons (dVar 0) (dCons (dVar 1) dNil)) noD) dNil)))
theorem len_count_picked : ∀ ds μ Q E, sp_count_picked ds μ Q E → ds.length = 2 := by
  rintro ds μ Q E ⟨one, other, rfl, _⟩; rfl
theorem ok_count_picked : ∀ ds μ Q E, sp_count_picked ds μ Q E → b_count_picked { nx := fun _ μ' => Q .non μ', rt := Q } (startD 2 ds) μ := by
  rintro ds μ Q E ⟨one, other, rfl, h1, h2, q⟩
  simp [b_count_picked]
  exact ⟨one, other, rfl, h1, h2, by simpa [seqOf] using q⟩
def sp_price : DSp := fun ds μ Q _ => ∃ one other : List Nat, ds = [.str one, .str other] ∧ one.length ≤ 1000 ∧ other.length ≤ 1000 ∧ Q (.int (other.length - (fp one other 0).length)) μ
/-- price(one, other); slots 0:one 1:other -/
def b_price : TSD :=
  (dRet (dOp rdSub (dFn rdLen (dCons (dLook 1) dNil)) (dCall sp_count_picked (dCons (dVar 0) (dCons (dVar 1) dNil)) noD)))
theorem len_price : ∀ ds μ Q E, sp_price ds μ Q E → ds.length = 2 := by
  rintro ds μ Q E ⟨one, other, rfl, _⟩; rfl
theorem ok_price : ∀ ds μ Q E, sp_price ds μ Q E → b_price { nx := fun _ μ' => Q .non μ', rt := Q } (startD 2 ds) μ := by
  rintro ds μ Q E ⟨one, other, rfl, h1, h2, q⟩
  simp [b_price]
  exact ⟨by omega, one, other, rfl, h1, h2, by simpa using q⟩
end DL

namespace DL
open PySem PySem.Spec PyProof.Rows L2
abbrev typs : List String := ["NoneType", "bool", "int", "str", "list", "tuple", "dict"]
def isiB (t T : String) : Bool := decide (t = T) || (decide (t = "bool") && decide (T = "int"))
theorem isi_kit : ∀ t ∈ typs, ∀ T ∈ typs, kitB t T = some (isiB t T) := by decide +kernel
@[simp] def isiD : D → String → Bool
  | .non, T => decide (T = "NoneType")
  | .bl _, T => decide (T = "bool") || decide (T = "int")
  | .int _, T => decide (T = "int")
  | .str _, T => decide (T = "str")
  | .tup _, T => decide (T = "tuple")
  | .lst _, T => decide (T = "list")
  | .scr _, T => decide (T = "list")
  | .dct _, T => decide (T = "dict")
  | _, _ => false
@[simp] def isiOk : D → Bool
  | .non | .bl _ | .int _ | .str _ | .tup _ | .lst _ | .scr _ | .dct _ => true
  | _ => false
def rdIsi : RDn
  | [d, .ty T], μ, Q => isiOk d = true ∧ T ∈ typs ∧ Q (.bl (isiD d T)) μ
  | _, _, _ => False
@[simp] theorem rdIsi_1 : rdIsi  [d0, .ty T0] μ0 Q0 = (isiOk d0 = true ∧ T0 ∈ typs ∧ Q0 (.bl (isiD d0 T0)) μ0) := rfl
section
variable {K : PySem.W.Frag} {mg : Str → Option Value} {F H : Hp} {μ : Sto}
theorem sqT_tyx {a : Addr} {vs : List V} (h : SqT K H a vs) : TyX K H (.ref a) (.type "tuple") := by
  rcases h with (h | ⟨o, h⟩) | ⟨o, z, n, h1, h2, _⟩
  · exact .base (.tup h)
  · exact .fTuple h
  · exact .kTuple h1 h2
theorem sqL_tyx {a : Addr} {vs : List V} (h : SqL K H a vs) : TyX K H (.ref a) (.type "list") := by
  rcases h with (h | ⟨o, h⟩) | ⟨o, z, n, h1, h2, _⟩
  · exact .base (.lst h)
  · exact .base (.frz h)
  · exact .kList h1 h2
theorem cs_isi : CallS K mg (rIsi K) rdIsi := by
  intro F μ H vs ds Qd Q o w h k
  unfold rdIsi at h
  split at h
  · rename_i d T
    obtain ⟨u, v, rfl, wk, wt⟩ := w.two
    obtain ⟨h1, h2, q⟩ := h
    have ev : v = .ty T := by
      rcases wt with wt | ⟨a, vs, xs, _, e, _⟩
      · cases wt; rfl
      · cases e
    subst ev
    have fin : ∀ (t : String), t ∈ typs → TyX K H u (.type t) → isiD d T = isiB t T → _ := fun t ht tx e => (⟨u, .ty T, .type t, .type T, isiB t T, rfl, .ty T, tx, kit_ty (isi_kit t ht T h2), fin0 o k (.bl _) (e ▸ q)⟩ : rIsi K [u, .ty T] H Q)
    cases d <;> first | exact (Bool.false_ne_true h1).elim | skip
    · cases wk.non; exact fin "NoneType" (by decide) (.base .non) (by simp [isiB, eq_comm])
    · cases wk.bl; exact fin "bool" (by decide) (.base (.bl _)) (by simp [isiB, eq_comm])
    · cases wk.int; exact fin "int" (by decide) (.base (.int _)) (by simp [isiB, eq_comm])
    · cases wk.str; exact fin "str" (by decide) (.base (.str _)) (by simp [isiB, eq_comm])
    · obtain ⟨a, vs, rfl, ha, _⟩ := wk.tup o; exact fin "tuple" (by decide) (sqT_tyx ha) (by simp [isiB, eq_comm])
    · obtain ⟨a, vs, rfl, ha, _⟩ := wk.lst o; exact fin "list" (by decide) (.base (.lst ha)) (by simp [isiB, eq_comm])
    · obtain ⟨a, vs, rfl, ha, _⟩ := wk.dct o; exact fin "dict" (by decide) (.base (.dK ha)) (by simp [isiB, eq_comm])
    · obtain ⟨a, rfl, ha⟩ := wk.scr o; exact fin "list" (by decide) (sqL_tyx ha) (by simp [isiB, eq_comm])
  · exact h.elim
end
section
variable {X : Cx} {x : Str} {T : String} {pos p : Pos} {e e2 : Expr} {t : TAD}
/-- the name of a built-in type -/
theorem de_tyN (hg : Gl X x) (hm : X.mg x = none) (hv : bootBuiltins x = some (.type T)) (hn : x ≠ "__name__" := by decide) (hd : (x == ("__debug__" : Str)) = false := by decide) : DE X (.Name x pos) (dC (.ty T)) :=
  de_c (pe_bltn (v := .ty T) hg hm hv rfl hn hd) fun _ => .ty T
def zipD (xs ys : List D) : List D := (xs.zip ys).map fun p => .pr p.1 p.2
@[simp] def dZip (t : TAD) : TSrc := fun ρ μ Q => t ρ μ fun xs μ1 => match xs with
  | [.tup xs, .tup ys] => Q (zipD xs ys) still μ1
  | [.lst xs, .lst ys] => Q (zipD xs ys) still μ1
  | _ => False
@[simp] def dNever : TSD := fun _ _ _ => False
theorem ds_never {st : Stmt} {B : Bs} : DSt X B st dNever := ⟨fun _ _ _ _ _ _ ⟨_, _, _, _, _, h, _⟩ => h.elim⟩
end
section
variable {K : PySem.W.Frag} {mg : Str → Option Value}
def rdIsB : RD2
  | .bl a, .bl b, μ, Q => Q (.bl (decide (a = b))) μ
  | _, _, _, _ => False
@[simp] theorem rdIsB_1 : rdIsB  (.bl a0) (.bl b0) μ0 Q0 = (Q0 (.bl (decide (a0 = b0))) μ0) := rfl
def rdNotB : RD2
  | .bl a, .bl b, μ, Q => Q (.bl (!decide (a = b))) μ
  | _, _, _, _ => False
@[simp] theorem rdNotB_1 : rdNotB  (.bl a0) (.bl b0) μ0 Q0 = (Q0 (.bl (!decide (a0 = b0))) μ0) := rfl
end
section
variable {X : Cx} {B : Bs} {pos : Pos}
/-- x, y, z = a, b, c: values -/
@[simp] def dPar3 (i j l : Nat) (t : TAD) : TSD := fun E ρ μ => t ρ μ fun xs μ1 => match xs with
  | [x, y, z] => E.nx (((ρ.set i (some (.val x))).set j (some (.val y))).set l (some (.val z))) μ1
  | _ => False
end
end DL

namespace DL
open PySem PySem.Spec PyProof.Rows L2
/-- enumerate of a text -/
@[simp] def dEnumS (t : TAD) : TSrc := fun ρ μ Q => t ρ μ fun xs μ1 => match xs with
  | [.str s] => Q (enumD 0 (strD s)) still μ1
  | _ => False
section
variable {K : PySem.W.Frag} {mg : Str → Option Value}
def rdNeR : RD2
  | .ref a, .lst ys, μ, Q => ∃ xs, μ a = some (.lst xs) ∧ okEq (.lst xs) (.lst ys) ∧ Q (.bl (!D.eqv (.lst xs) (.lst ys))) μ
  | _, _, _, _ => False
@[simp] theorem rdNeR_1 : rdNeR  (.ref a0) (.lst ys0) μ0 Q0 = (∃ xs, μ0 a0 = some (.lst xs) ∧ okEq (.lst xs) (.lst ys0) ∧ Q0 (.bl (!D.eqv (.lst xs) (.lst ys0))) μ0) := rfl
theorem ops_neR : OpS K mg (r2Or (rNeD K) rNe) rdNeR := by
  intro F μ H x y dx dy Qd Q o wx wy h k
  cases dx <;> first | exact h.elim | skip
  cases dy <;> first | exact h.elim | skip
  rename_i a ys
  obtain ⟨xs, hx, ok, q⟩ := h
  cases wx.ref
  obtain ⟨vs, ha, ra⟩ := o.sto _ _ hx
  rcases ok with ok | ⟨f1, f2, s1, s2⟩
  · exact (Bool.false_ne_true ok).elim
  · exact .inl ⟨_, _, .lst (.inl (.inl ha)) (Dts.dp o.sub ra f1), wy.dp o f2, s1, s2, fin0 o k (.bl _) q⟩
end
end DL

namespace DL
open PySem PySem.Spec PyProof.Rows L2
theorem Dts.split {K : PySem.W.Frag} {mg : Str → Option Value} {F : Hp} {vs : List V} {ds : List D} (n : Nat) (r : Dts K mg F vs ds) : vs = vs.take n ++ vs.drop n ∧ Dts K mg F (vs.take n) (ds.take n) ∧ Dts K mg F (vs.drop n) (ds.drop n) := ⟨(List.take_append_drop n vs).symm, r.take n, r.drop n⟩
section
variable {P : Program} {w : World} {K : PySem.W.Frag} {mg : Str → Option Value} {base : Heap} {k : Nat} {f : Addr} {ps : List Str} {S : DSp}
end
/-- each item gives one, nothing changes -/
theorem lcD_list {α : Type} {vs : List Nat} {g : TGD} {el : TED} {ρ : DEnv} {Q : List D → Sto → Prop} {μ : Sto} {inv : Sto → Prop} (l : List α) (i r : α → D) (hi : inv μ) (hl : l.length ≤ SZ)
    (step : ∀ a ∈ l, ∀ k : D → Sto → Prop, k (r a) μ → g (i a) (wipeD ρ vs) fun ρ1 => el ρ1 μ k) (done : Q (l.map r) μ) : lcD vs g dYes el ρ inv Q (l.map i) [] μ := by
  refine lcD_inv (fun xs acc μ' => μ' = μ ∧ ∃ pre post, l = pre ++ post ∧ xs = post.map i ∧ acc = pre.map r) (fun _ _ _ h => h.1 ▸ hi) ?_ ?_ (l.map i) [] μ ⟨rfl, [], l, rfl, rfl, rfl⟩
  · rintro x xs acc μ' n ⟨rfl, pre, post, e, hx, rfl⟩ hn
    cases post with
    | nil => cases hx
    | cons a post =>
      rw [List.map_cons] at hx
      cases hx
      have := step a (by rw [e]; simp) (fun y m => (pre.map r).length < SZ ∧ n (pre.map r ++ [y]) m) ⟨by rw [e] at hl; simp at hl ⊢; omega, hn _ _ ⟨rfl, pre ++ [a], post, by simp [e], rfl, by simp⟩⟩
      simpa using this
  · rintro acc μ' ⟨rfl, pre, post, e, hx, rfl⟩
    cases post with
    | nil => rw [List.append_nil] at e; subst e; exact done
    | cons a post => cases hx
/-- each item that fits gives one, nothing changes -/
theorem lcD_listF {α : Type} {vs : List Nat} {g : TGD} {c : TTD} {el : TED} {ρ : DEnv} {Q : List D → Sto → Prop} {μ : Sto} {inv : Sto → Prop} (l : List α) (p : α → Bool) (i r : α → D) (hi : inv μ) (hl : l.length ≤ SZ)
    (step : ∀ a ∈ l, ∀ (k : D → Sto → Prop) (n : Sto → Prop), (p a = true → k (r a) μ) → (p a = false → n μ) → g (i a) (wipeD ρ vs) fun ρ1 => c ρ1 μ fun b μ1 => if b = true then el ρ1 μ1 k else n μ1)
    (done : Q ((l.filter p).map r) μ) : lcD vs g c el ρ inv Q (l.map i) [] μ := by
  refine lcD_inv (fun xs acc μ' => μ' = μ ∧ ∃ pre post, l = pre ++ post ∧ xs = post.map i ∧ acc = (pre.filter p).map r) (fun _ _ _ h => h.1 ▸ hi) ?_ ?_ (l.map i) [] μ ⟨rfl, [], l, rfl, rfl, rfl⟩
  · rintro x xs acc μ' n ⟨rfl, pre, post, e, hx, rfl⟩ hn
    cases post with
    | nil => cases hx
    | cons a post =>
      rw [List.map_cons] at hx
      cases hx
      refine step a (by rw [e]; simp) _ (fun m => n _ m) (fun hp => ⟨?_, hn _ _ ⟨rfl, pre ++ [a], post, by simp [e], rfl, by simp [hp]⟩⟩) fun hp => hn _ _ ⟨rfl, pre ++ [a], post, by simp [e], rfl, by simp [hp]⟩
      have := List.length_filter_le p pre
      rw [e] at hl
      simp at hl ⊢
      omega
  · rintro acc μ' ⟨rfl, pre, post, e, hx, rfl⟩
    cases post with
    | nil => rw [List.append_nil] at e; subst e; exact done
    | cons a post => cases hx
/-- a loop over a list of anything -/
theorem forD_list {α : Type} {g : TGD} {body : TSD} {E : DEnds} {inv : Sto → Prop} (i : α → D) (P : List α → DEnv → Sto → Prop) (hi : ∀ l ρ μ, P l ρ μ → inv μ)
    (step : ∀ a l ρ μ (n : DEnv → Sto → Prop), P (a :: l) ρ μ → (∀ ρ' μ', P l ρ' μ' → n ρ' μ') → g (i a) ρ fun ρ1 => body { E with nx := n, ct := n, bk := E.nx } ρ1 μ)
    (done : ∀ ρ μ, P [] ρ μ → E.nx ρ μ) : ∀ (l : List α) ρ μ, P l ρ μ → forD g body E inv (l.map i) ρ μ := by
  intro l
  induction l with
  | nil => intro ρ μ h; exact ⟨hi _ _ _ h, done ρ μ h⟩
  | cons a l ih => intro ρ μ h; exact ⟨hi _ _ _ h, step a l ρ μ _ h ih⟩
end DL

namespace DL
open PySem PySem.Spec PyProof.Rows L2
/-- enumerate of a tuple -/
@[simp] def dEnumT (t : TAD) : TSrc := fun ρ μ Q => t ρ μ fun xs μ1 => match xs with
  | [.tup s] => Q (enumD 0 s) still μ1
  | _ => False
end DL

namespace DL
open PySem PySem.Spec PyProof.Rows L2
open RZ (nextOf_tuple_item nextOf_tuple_end call_zipT pyNext_zipT_item pyNext_zipT_end)
section
variable {prog : Program} {w : World} {A : Around} {E : Value → Shared → Prop} {s : Shared}
/-- the next pair while the one before is still known -/
theorem zt_item {z TI TO T i1 i2 l1 l2 : Addr} {f : Bool} {oT : Obj} {k1 k2 : Nat} {xs ys : Array Value} {x y : Value} {Q : Value → Shared → Prop} (D : ZipApart z TI TO i1 i2 l1 l2)
    (Z0 : IsZipHeld s.heap z TI TO T f) (kT : s.heap.get? T = some oT) (pTI : IsPair s.heap TI (.ref i1) (.ref i2))
    (g1 : s.heap.IsTupleIter i1 l1 k1) (g2 : s.heap.IsTupleIter i2 l2 k2) (t1 : s.heap.IsTuple l1 xs) (t2 : s.heap.IsTuple l2 ys) (ex : xs[k1]? = some x) (ey : ys[k2]? = some y)
    (fin : ∀ h', IsZipHeld h' z TI TO T true → h'.IsTupleIter i1 l1 (k1 + 1) → h'.IsTupleIter i2 l2 (k2 + 1) → IsPair h' s.heap.objs.size x y → h'.objs.size = s.heap.objs.size + 1 →
      (∀ c o, c ≠ z → c ≠ i1 → c ≠ i2 → s.heap.get? c = some o → h'.get? c = some o) → Q (.ref s.heap.objs.size) { s with heap := h' }) :
    wpAny (model prog w) A (Builtin.«zip.__next__» ⟨[.ref z], []⟩) (fun fn s' => ∃ v, fn = .done (.ret v) ∧ Q v s') E s := by
  show wpAny _ _ (field (.ref z) 2 >>= _) _ _ _
  refine wpAny_bind (wpAny_field Z0 rfl (x := .bool false) rfl ?_); show wpAny _ _ (field (.ref z) 3 >>= _) _ _ _
  refine wpAny_bind (wpAny_field Z0 rfl (x := .ref TI) rfl ?_); refine wpAny_bind (wpAny_seqItems pTI rfl ?_)
  show wpAny _ _ (Builtin.SmallTypes.ownedTupleIsFree (.ref z) >>= _) _ _ _; refine wpAny_bind (wpAny_tupleHeld_zip Z0 kT fun ha Z1 sa => ?_)
  simp only [Bool.false_eq_true, if_false]; refine wpAny_bind ?_
  rw [← Array.forIn_toList]; simp only [List.forIn_cons, List.forIn_nil]
  refine wpAny_bind (wpAny_bind (wpAny_holding ?_)); show wpAny _ _ (Builtin.SmallTypes.nextOf (.ref i1) >>= _) _ _ _
  refine wpAny_bind (nextOf_tuple_item (s := { s with heap := ha }) (g1.extBut sa.extBut D.i1z) (t1.extBut sa.extBut D.l1z) ex fun hb g1b sb => wpAny_pure ?_)
  refine wpAny_pure ?_; refine wpAny_bind (wpAny_bind (wpAny_holding ?_))
  show wpAny _ _ (Builtin.SmallTypes.nextOf (.ref i2) >>= _) _ _ _
  refine wpAny_bind (nextOf_tuple_item (s := { s with heap := hb }) ((g2.extBut sa.extBut D.i2z).extBut sb.extBut D.i12.symm) ((t2.extBut sa.extBut D.l2z).extBut sb.extBut D.l2i1) ey fun hc g2c sc => wpAny_pure ?_)
  refine wpAny_pure (wpAny_pure ?_); show wpAny _ _ (newTuple [x, y] >>= _) _ _ _
  refine wpAny_bind (wpAny_newTuple ?_)
  have ez : hc.objs.size = s.heap.objs.size := sc.1.trans (sb.1.trans sa.1)
  have Z3 : IsZipHeld hc z TI TO T true := sc.extBut _ _ D.i2z.symm (sb.extBut _ _ D.i1z.symm Z1)
  have kp : ∀ c o, c ≠ z → c ≠ i1 → c ≠ i2 → s.heap.get? c = some o → hc.get? c = some o := fun c o n1 n2 n3 e => sc.extBut _ _ n3 (sb.extBut _ _ n2 (sa.extBut _ _ n1 e))
  have g1c : hc.IsTupleIter i1 l1 (k1 + 1) := g1b.extBut sc.extBut D.i12
  refine wpAny_pure ⟨_, rfl, ?_⟩; show Q (.ref hc.objs.size) _
  have np : IsPair (hc.push { cls := .type "tuple", data := .seq #[x, y] }) hc.objs.size x y := Heap.get?_push_size _ rfl
  have nz : (hc.push { cls := .type "tuple", data := .seq #[x, y] }).objs.size = hc.objs.size + 1 := Heap.size_push ..
  rw [ez] at np nz ⊢
  exact fin _ (Heap.get?_push_of_some _ Z3) (g1c.at fun o e => Heap.get?_push_of_some _ e) (g2c.at fun o e => Heap.get?_push_of_some _ e) np nz fun c o n1 n2 n3 e => Heap.get?_push_of_some _ (kp c o n1 n2 n3 e)
theorem zt_end {z TI TO T i1 i2 l1 l2 : Addr} {f : Bool} {oT : Obj} {k1 k2 : Nat} {xs ys : Array Value} {Q : Fin → Shared → Prop} (hh : A.handled = none) (D : ZipApart z TI TO i1 i2 l1 l2)
    (Z0 : IsZipHeld s.heap z TI TO T f) (kT : s.heap.get? T = some oT) (pTI : IsPair s.heap TI (.ref i1) (.ref i2))
    (g1 : s.heap.IsTupleIter i1 l1 k1) (g2 : s.heap.IsTupleIter i2 l2 k2) (t1 : s.heap.IsTuple l1 xs) (t2 : s.heap.IsTuple l2 ys) (stop : xs[k1]? = none ∨ ys[k2]? = none)
    (fin : ∀ h' e, (∀ c o, c ≠ z → c ≠ i1 → c ≠ i2 → s.heap.get? c = some o → h'.get? c = some o) → (∃ o, h'.get? e = some o ∧ o.cls = .type "StopIteration") → E (.ref e) { s with heap := h' }) :
    wpAny (model prog w) A (Builtin.«zip.__next__» ⟨[.ref z], []⟩) Q E s := by
  show wpAny _ _ (field (.ref z) 2 >>= _) _ _ _
  refine wpAny_bind (wpAny_field Z0 rfl (x := .bool false) rfl ?_); show wpAny _ _ (field (.ref z) 3 >>= _) _ _ _
  refine wpAny_bind (wpAny_field Z0 rfl (x := .ref TI) rfl ?_); refine wpAny_bind (wpAny_seqItems pTI rfl ?_)
  show wpAny _ _ (Builtin.SmallTypes.ownedTupleIsFree (.ref z) >>= _) _ _ _; refine wpAny_bind (wpAny_tupleHeld_zip Z0 kT fun ha Z1 sa => ?_)
  simp only [Bool.false_eq_true, if_false]; refine wpAny_bind ?_
  rw [← Array.forIn_toList]; simp only [List.forIn_cons, List.forIn_nil]
  refine wpAny_bind (wpAny_bind (wpAny_holding ?_)); show wpAny _ _ (Builtin.SmallTypes.nextOf (.ref i1) >>= _) _ _ _
  cases ex : xs[k1]? with
  | none =>
    refine wpAny_bind (nextOf_tuple_end (s := { s with heap := ha }) hh (g1.extBut sa.extBut D.i1z) (t1.extBut sa.extBut D.l1z) ex fun hb e sb he => ?_)
    exact fin hb e (fun c o n1 n2 _ q => sb _ _ n2 (sa.extBut _ _ n1 q)) he
  | some x =>
    have ey : ys[k2]? = none := stop.resolve_left (by rw [ex]; exact fun q => nomatch q)
    refine wpAny_bind (nextOf_tuple_item (s := { s with heap := ha }) (g1.extBut sa.extBut D.i1z) (t1.extBut sa.extBut D.l1z) ex fun hb g1b sb => wpAny_pure ?_)
    refine wpAny_pure ?_; refine wpAny_bind (wpAny_bind (wpAny_holding ?_))
    show wpAny _ _ (Builtin.SmallTypes.nextOf (.ref i2) >>= _) _ _ _
    refine wpAny_bind (nextOf_tuple_end (s := { s with heap := hb }) hh ((g2.extBut sa.extBut D.i2z).extBut sb.extBut D.i12.symm) ((t2.extBut sa.extBut D.l2z).extBut sb.extBut D.l2i1) ey fun hc e sc he => ?_)
    exact fin hc e (fun c o n1 n2 n3 q => sc _ _ n3 (sb.extBut _ _ n2 (sa.extBut _ _ n1 q))) he
theorem zt_next {z TI TO T i1 i2 l1 l2 : Addr} {f : Bool} {oT : Obj} {k1 k2 : Nat} {xs ys : Array Value} {x y : Value} {Q : Option Value → Shared → Prop} (D : ZipApart z TI TO i1 i2 l1 l2)
    (Z0 : IsZipHeld s.heap z TI TO T f) (kT : s.heap.get? T = some oT) (pTI : IsPair s.heap TI (.ref i1) (.ref i2))
    (g1 : s.heap.IsTupleIter i1 l1 k1) (g2 : s.heap.IsTupleIter i2 l2 k2) (t1 : s.heap.IsTuple l1 xs) (t2 : s.heap.IsTuple l2 ys) (ex : xs[k1]? = some x) (ey : ys[k2]? = some y)
    (fin : ∀ h', IsZipHeld h' z TI TO T true → h'.IsTupleIter i1 l1 (k1 + 1) → h'.IsTupleIter i2 l2 (k2 + 1) → IsPair h' s.heap.objs.size x y → h'.objs.size = s.heap.objs.size + 1 →
      (∀ c o, c ≠ z → c ≠ i1 → c ≠ i2 → s.heap.get? c = some o → h'.get? c = some o) → Q (some (.ref s.heap.objs.size)) { s with heap := h' }) :
    wpAny (model prog w) A (pyNext (.ref z)) Q E s := by
  have ty : s.TypeIs (.ref z) "zip" := ⟨_, Z0, rfl⟩
  unfold pyNext
  exact wpAny_bind (wpAny_attempt (wpAny_callSpecial?_slot (name := Str.ofString "__next__") ty PySem.F.slot_zip_next
    (wpAny_call_entry PySem.F.slot_zip_next ty PySem.F.entry_zip_next (zt_item D Z0 kT pTI g1 g2 t1 t2 ex ey fun h' a b c d e f => wpAny_pure (fin h' a b c d e f)) (PySem.F.args_zip_next_1 _))))
theorem zt_stop {z TI TO T i1 i2 l1 l2 : Addr} {f : Bool} {oT : Obj} {k1 k2 : Nat} {xs ys : Array Value} {Q : Option Value → Shared → Prop} (hh : A.handled = none) (D : ZipApart z TI TO i1 i2 l1 l2)
    (Z0 : IsZipHeld s.heap z TI TO T f) (kT : s.heap.get? T = some oT) (pTI : IsPair s.heap TI (.ref i1) (.ref i2))
    (g1 : s.heap.IsTupleIter i1 l1 k1) (g2 : s.heap.IsTupleIter i2 l2 k2) (t1 : s.heap.IsTuple l1 xs) (t2 : s.heap.IsTuple l2 ys) (stop : xs[k1]? = none ∨ ys[k2]? = none)
    (fin : ∀ h', (∀ c o, c ≠ z → c ≠ i1 → c ≠ i2 → s.heap.get? c = some o → h'.get? c = some o) → Q none { s with heap := h' }) :
    wpAny (model prog w) A (pyNext (.ref z)) Q E s := by
  have ty : s.TypeIs (.ref z) "zip" := ⟨_, Z0, rfl⟩
  unfold pyNext
  refine wpAny_bind (wpAny_attempt (wpAny_callSpecial?_slot (name := Str.ofString "__next__") ty PySem.F.slot_zip_next
    (wpAny_call_entry PySem.F.slot_zip_next ty PySem.F.entry_zip_next (zt_end hh D Z0 kT pTI g1 g2 t1 t2 stop fun h' e k he => ?_) (PySem.F.args_zip_next_1 _))))
  obtain ⟨o, ho, hc⟩ := he
  exact wpAny_bind (wpAny_isInstance (T := "StopIteration") (b := true) ⟨o, ho, hc⟩ isSubtype_stop (wpAny_pure (fin _ k)))

/-- the pairs laid so far -/
structure ZGot (xs ys : Array Value) (base : Nat) (h : Heap) (ts : List Addr) : Prop where
  low : ∀ t ∈ ts, base ≤ t
  nd : ts.Nodup
  pr : ∀ (j : Nat) (t : Addr), ts[j]? = some t → ∃ x y, xs[j]? = some x ∧ ys[j]? = some y ∧ IsPair h t x y
theorem ZGot.keep {xs ys : Array Value} {base : Nat} {h h' : Heap} {ts : List Addr} (g : ZGot xs ys base h ts) (k : ∀ t, base ≤ t → ∀ o, h.get? t = some o → h'.get? t = some o) : ZGot xs ys base h' ts :=
  ⟨g.low, g.nd, fun j t e => let ⟨x, y, a, b, c⟩ := g.pr j t e; ⟨x, y, a, b, k t (g.low t (List.mem_of_getElem? e)) _ c⟩⟩
theorem ZGot.more {xs ys : Array Value} {base : Nat} {h : Heap} {ts : List Addr} {p : Addr} {x y : Value} (g : ZGot xs ys base h ts) (hp : base ≤ p) (hn : p ∉ ts) (hx : xs[ts.length]? = some x) (hy : ys[ts.length]? = some y) (hq : IsPair h p x y) : ZGot xs ys base h (ts ++ [p]) := by
  refine ⟨fun t ht => ?_, ?_, fun j t e => ?_⟩
  · rcases List.mem_append.mp ht with h1 | h1
    · exact g.low t h1
    · rw [List.mem_singleton.mp h1]; exact hp
  · rw [List.nodup_append]
    exact ⟨g.nd, by simp, fun a ha b hb => by rw [List.mem_singleton.mp hb]; exact fun e => hn (e ▸ ha)⟩
  · rcases Nat.lt_or_ge j ts.length with h1 | h1
    · rw [List.getElem?_append_left h1] at e; exact g.pr j t e
    · rw [List.getElem?_append_right h1] at e
      have hj : j = ts.length := by
        rcases Nat.eq_or_lt_of_le h1 with q | q
        · exact q.symm
        · rw [List.getElem?_eq_none (by simp; omega)] at e; cases e
      subst hj
      rw [Nat.sub_self] at e
      cases e
      exact ⟨x, y, hx, hy, hq⟩
/-- where the iterator stands -/
structure ZSt (z TI TO i1 i2 l1 l2 : Addr) (xs ys : Array Value) (i : Nat) (h : Heap) : Prop where
  pTI : IsPair h TI (.ref i1) (.ref i2)
  g1 : h.IsTupleIter i1 l1 i
  g2 : h.IsTupleIter i2 l2 i
  t1 : h.IsTuple l1 xs
  t2 : h.IsTuple l2 ys
  st : (IsZip h z TI TO .none ∧ ∃ a b, IsPair h TO a b) ∨ ∃ T f oT, IsZipHeld h z TI TO T f ∧ h.get? T = some oT ∧ T ≠ z ∧ T ≠ i1 ∧ T ≠ i2
structure ZOff (z TI TO i1 i2 l1 l2 S : Addr) : Prop where
  z : S ≠ z
  TI : S ≠ TI
  TO : S ≠ TO
  i1 : S ≠ i1
  i2 : S ≠ i2
  l1 : S ≠ l1
  l2 : S ≠ l2
theorem ZSt.upd {z TI TO i1 i2 l1 l2 S : Addr} {xs ys : Array Value} {i : Nat} {h h' : Heap} (a : ZSt z TI TO i1 i2 l1 l2 xs ys i h) (n : ZOff z TI TO i1 i2 l1 l2 S) (k : ∀ b o, b ≠ S → h.get? b = some o → h'.get? b = some o) (hS : ∀ o, h.get? S = some o → ∃ o', h'.get? S = some o') : ZSt z TI TO i1 i2 l1 l2 xs ys i h' := by
  refine ⟨k _ _ n.TI.symm a.pTI, a.g1.at fun o e => k _ o n.i1.symm e, a.g2.at fun o e => k _ o n.i2.symm e, a.t1.at fun o e => k _ o n.l1.symm e, a.t2.at fun o e => k _ o n.l2.symm e, ?_⟩
  rcases a.st with ⟨q, x, y, r⟩ | ⟨T, f, oT, q, r, r1, r2, r3⟩
  · exact .inl ⟨k _ _ n.z.symm q, x, y, k _ _ n.TO.symm r⟩
  · refine .inr ?_
    by_cases hT : T = S
    · subst hT
      obtain ⟨o', ho'⟩ := hS _ r
      exact ⟨T, f, o', k _ _ n.z.symm q, ho', r1, r2, r3⟩
    · exact ⟨T, f, oT, k _ _ n.z.symm q, k _ _ hT r, r1, r2, r3⟩
/-- one turn -/
theorem zt_turn {z TI TO i1 i2 l1 l2 : Addr} {i : Nat} {xs ys : Array Value} {x y : Value} {Q : Option Value → Shared → Prop} (D : ZipApart z TI TO i1 i2 l1 l2) (a : ZSt z TI TO i1 i2 l1 l2 xs ys i s.heap) (ex : xs[i]? = some x) (ey : ys[i]? = some y)
    (fin : ∀ h', ZSt z TI TO i1 i2 l1 l2 xs ys (i + 1) h' → IsPair h' s.heap.objs.size x y → h'.objs.size = s.heap.objs.size + 1 → (∀ c o, c ≠ z → c ≠ TO → c ≠ i1 → c ≠ i2 → s.heap.get? c = some o → h'.get? c = some o) → Q (some (.ref s.heap.objs.size)) { s with heap := h' }) :
    wpAny (model prog w) A (pyNext (.ref z)) Q E s := by
  obtain ⟨pTI, g1, g2, t1, t2, st⟩ := a
  have lt : ∀ {c o}, s.heap.get? c = some o → s.heap.objs.size ≠ c := fun e => Nat.ne_of_gt (Heap.lt_size e)
  have n1 : s.heap.objs.size ≠ i1 := let ⟨_, e, _⟩ := g1; lt e
  have n2 : s.heap.objs.size ≠ i2 := let ⟨_, e, _⟩ := g2; lt e
  rcases st with ⟨Z0, u, v, pTO⟩ | ⟨T, f, oT, Z0, kT, r1, r2, r3⟩
  · refine pyNext_zipT_item D Z0 pTI pTO g1 g2 t1 t2 ex ey fun h' a1 a2 a3 a4 a5 a6 k => fin h' ⟨k _ _ D.TIz D.TITO D.TIi1 D.TIi2 pTI, a3, a4, ?_, ?_, ?_⟩ a5 a6 k
    · exact t1.at fun o e => k _ o D.l1z D.l1TO D.l1i1 D.l1i2 e
    · exact t2.at fun o e => k _ o D.l2z D.l2TO D.l2i1 D.l2i2 e
    · exact .inr ⟨s.heap.objs.size, false, _, a1, a5, lt Z0, n1, n2⟩
  · refine zt_next D Z0 kT pTI g1 g2 t1 t2 ex ey fun h' a1 a3 a4 a5 a6 k => fin h' ⟨k _ _ D.TIz D.TIi1 D.TIi2 pTI, a3, a4, ?_, ?_, ?_⟩ a5 a6 fun c o q1 _ q3 q4 e => k c o q1 q3 q4 e
    · exact t1.at fun o e => k _ o D.l1z D.l1i1 D.l1i2 e
    · exact t2.at fun o e => k _ o D.l2z D.l2i1 D.l2i2 e
    · exact .inr ⟨T, true, oT, a1, k _ _ r1 r2 r3 kT, r1, r2, r3⟩
theorem zt_last {z TI TO i1 i2 l1 l2 : Addr} {i : Nat} {xs ys : Array Value} {Q : Option Value → Shared → Prop} (hh : A.handled = none) (D : ZipApart z TI TO i1 i2 l1 l2) (a : ZSt z TI TO i1 i2 l1 l2 xs ys i s.heap) (stop : xs[i]? = none ∨ ys[i]? = none)
    (fin : ∀ h', (∀ c o, c ≠ z → c ≠ TO → c ≠ i1 → c ≠ i2 → s.heap.get? c = some o → h'.get? c = some o) → Q none { s with heap := h' }) :
    wpAny (model prog w) A (pyNext (.ref z)) Q E s := by
  obtain ⟨pTI, g1, g2, t1, t2, st⟩ := a
  rcases st with ⟨Z0, u, v, pTO⟩ | ⟨T, f, oT, Z0, kT, r1, r2, r3⟩
  · exact pyNext_zipT_end hh D Z0 pTI pTO g1 g2 t1 t2 stop fin
  · exact zt_stop hh D Z0 kT pTI g1 g2 t1 t2 stop fun h' k => fin h' fun c o q1 _ q3 q4 e => k c o q1 q3 q4 e
end
section
variable {prog : Program} {w : World} {A : Around} {R : Result → Shared → Prop}
/-- list.extend's loop -/
theorem zt_loop {z TI TO i1 i2 l1 l2 S : Addr} {xs ys : Array Value} {n base : Nat} (hh : A.in1.handled = none) (D : ZipApart z TI TO i1 i2 l1 l2) (O : ZOff z TI TO i1 i2 l1 l2 S) (hn : n = min xs.size ys.size) (hz : n ≤ sizeLine) (res : Value)
    (hb : z < base ∧ TO < base ∧ i1 < base ∧ i2 < base ∧ S < base) :
    ∀ (k i : Nat) (s : Shared) (ts : List Addr) (c : Nat), n - i = k → i ≤ n → ts.length = i → base ≤ s.heap.objs.size → ZSt z TI TO i1 i2 l1 l2 xs ys i s.heap → ZGot xs ys base s.heap ts →
    s.heap.get? S = some { cls := .type "list", dict := none, data := .seq (ts.map Value.ref).toArray c, slots := #[] } →
    (∀ h' ts' c', ts'.length = n → ZGot xs ys base h' ts' → h'.get? S = some { cls := .type "list", dict := none, data := .seq (ts'.map Value.ref).toArray c', slots := #[] } →
      (∀ b o, b ≠ z → b ≠ TO → b ≠ i1 → b ≠ i2 → b ≠ S → s.heap.get? b = some o → h'.get? b = some o) → R (.ok (.ret res)) { s with heap := h' }) →
    codeAny (model prog w) A (.builtin "list.extend.loop" ⟨[.ref S, .ref z, res], []⟩) R s := by
  obtain ⟨bz, bTO, b1, b2, bS⟩ := hb
  have far : ∀ {u t : Addr}, u < base → base ≤ t → t ≠ u := fun a b => Nat.ne_of_gt (Nat.lt_of_lt_of_le a b)
  intro k
  induction k with
  | zero =>
    intro i s ts c hk hi hl hbs hst hg hS hR
    have e : i = n := by omega
    refine codeAny_builtin F.entry_extend_loop ?_
    rw [Around.under_plainId F.plain_extend_loop _]
    show wpAny _ A.in1 (pyNext (.ref z) >>= _) _ _ s
    refine wpAny_bind (zt_last hh D hst ?_ fun h' kp => ?_)
    · rcases Nat.le_total xs.size ys.size with q | q
      · exact .inl (Array.getElem?_eq_none (by omega))
      · exact .inr (Array.getElem?_eq_none (by omega))
    · refine wpAny_pure (hR h' ts c (by omega) (hg.keep fun t ht o q => kp t o (far bz ht) (far bTO ht) (far b1 ht) (far b2 ht) q) (kp _ _ O.z O.TO O.i1 O.i2 hS) fun b o q1 q2 q3 q4 _ q => kp b o q1 q2 q3 q4 q)
  | succ k ih =>
    intro i s ts c hk hi hl hbs hst hg hS hR
    have ex := Array.getElem?_eq_getElem (xs := xs) (i := i) (by omega)
    have ey := Array.getElem?_eq_getElem (xs := ys) (i := i) (by omega)
    refine codeAny_builtin F.entry_extend_loop ?_
    rw [Around.under_plainId F.plain_extend_loop _]
    show wpAny _ A.in1 (pyNext (.ref z) >>= _) _ _ s
    refine wpAny_bind (zt_turn D hst ex ey fun h1 st1 p1 z1 k1 => ?_)
    have hS1 := k1 _ _ O.z O.TO O.i1 O.i2 hS
    have new : s.heap.objs.size ∉ ts := fun q => by
      obtain ⟨j, hj⟩ := List.mem_iff_getElem?.mp q
      obtain ⟨_, _, _, _, q3⟩ := hg.pr j _ hj
      exact absurd (Heap.lt_size q3) (Nat.lt_irrefl _)
    have hg1 : ZGot xs ys base h1 (ts ++ [s.heap.objs.size]) := (hg.keep fun t ht o q => k1 t o (far bz ht) (far bTO ht) (far b1 ht) (far b2 ht) q).more hbs new (by rw [hl]; exact ex) (by rw [hl]; exact ey) p1
    show wpAny _ A.in1 (updateSeq S (·.push (.ref s.heap.objs.size)) >>= _) _ _ _
    refine wpAny_bind ?_
    have oth : ∀ b o, b ≠ S → h1.get? b = some o → (h1.update S (Obj.mapSeq (·.push (Value.ref s.heap.objs.size)))).get? b = some o := fun b o q e => (Heap.get?_update_other _ _ (Ne.symm q)).trans e
    have hS2 := Heap.get?_update_self (Obj.mapSeq (·.push (Value.ref s.heap.objs.size))) hS1 rfl
    refine wpAny_updateSeq hS1 rfl (wpAny_pure ⟨plainId_quiet F.plain_extend_loop _, ih (i + 1) _ (ts ++ [s.heap.objs.size]) (c + 1) (by omega) (by omega) (by simp; omega) ?_ ?_ ?_ ?_ fun h' ts' c' q1 q2 q3 q4 => ?_⟩)
      (by simp; omega) (by simp; omega)
    · show base ≤ (h1.update S _).objs.size
      rw [(Heap.SameBut.update (h := h1) (a := S) ..).1]; omega
    · exact st1.upd O oth fun o e => ⟨_, hS2⟩
    · exact hg1.keep fun t ht o q => oth t o (far bS ht) q
    · rw [hS2]; simp [Obj.mapSeq]
    · refine hR h' ts' c' q1 q2 q3 fun b o n1 n2 n3 n4 n5 q => ?_
      exact q4 b o n1 n2 n3 n4 n5 (oth b o n5 (k1 b o n1 n2 n3 n4 q))
end
theorem zip_no_len : typeLookup (.type "zip") "__len__" = pure none := by rw [typeLookup_type, builtinLookup_eq_fast]; kernel_rfl
theorem zip_no_hint : typeLookup (.type "zip") "__length_hint__" = pure none := by rw [typeLookup_type, builtinLookup_eq_fast]; kernel_rfl
section
variable {prog : Program} {w : World} {A : Around} {E : Value → Shared → Prop} {s : Shared} {R : Result → Shared → Prop}
theorem zt_init {z TI TO i1 i2 l1 l2 S : Addr} {xs ys : Array Value} {n : Nat} (hh : A.in1.handled = none) (D : ZipApart z TI TO i1 i2 l1 l2) (O : ZOff z TI TO i1 i2 l1 l2 S) (hn : n = min xs.size ys.size) (hz : n ≤ sizeLine)
    (hb : z < s.heap.objs.size ∧ TO < s.heap.objs.size ∧ i1 < s.heap.objs.size ∧ i2 < s.heap.objs.size ∧ S < s.heap.objs.size) (a : ZSt z TI TO i1 i2 l1 l2 xs ys 0 s.heap)
    (hS : s.heap.get? S = some { cls := .type "list", data := .seq #[] })
    (hR : ∀ h' ts' c', ts'.length = n → ZGot xs ys s.heap.objs.size h' ts' → h'.get? S = some { cls := .type "list", dict := none, data := .seq (ts'.map Value.ref).toArray c', slots := #[] } →
      (∀ b o, b ≠ z → b ≠ TO → b ≠ i1 → b ≠ i2 → b ≠ S → s.heap.get? b = some o → h'.get? b = some o) → R (.ok (.ret .none)) { s with heap := h' }) :
    wpAny (model prog w) A.in1 (Builtin.«list.__init__» ⟨[.ref S, .ref z], []⟩)
      (fun fin s' => match fin with | .done f => R (.ok f) s' | .again c' => c'.quiet = true ∧ codeAny (model prog w) A c' R s') (fun e s' => R (.error e) s') s := by
  show wpAny _ A.in1 (do let old ← Builtin.List.listItems (.ref S); Builtin.List.listUpdate (.ref S) (fun _ => #[]); letGo old.toList.reverse; Builtin.List.listExtendWith (.ref S) (.ref z) .none) _ _ s
  refine wpAny_bind ?_
  unfold Builtin.List.listItems
  refine wpAny_bind (wpAny_seqItems hS rfl (wpAny_pure ?_)); show wpAny _ A.in1 (updateSeq S (fun _ => #[]) >>= fun _ => letGo (#[] : Array Value).toList.reverse >>= fun _ => Builtin.List.listExtendWith (.ref S) (.ref z) .none) _ _ s
  refine wpAny_bind (wpAny_updateSeq hS rfl ?_)
  have H1 := Heap.get?_update_self (Obj.mapSeq (fun _ => (#[] : Array Value))) hS rfl
  have k1 : ∀ b o, b ≠ S → s.heap.get? b = some o → (s.heap.update S (Obj.mapSeq (fun _ => (#[] : Array Value)))).get? b = some o := fun b o q e => (Heap.get?_update_other _ _ (Ne.symm q)).trans e
  have z1 : (s.heap.update S (Obj.mapSeq (fun _ => (#[] : Array Value)))).objs.size = s.heap.objs.size := (Heap.SameBut.update (h := s.heap) (a := S) ..).1
  have a1 := a.upd O k1 fun o e => ⟨_, H1⟩
  generalize s.heap.update S (Obj.mapSeq (fun _ => (#[] : Array Value))) = hp1 at *
  refine wpAny_bind (wpAny_letGo ?_)
  unfold Builtin.List.listExtendWith
  have ty : Shared.TypeIs { s with heap := hp1 } (.ref z) "zip" := by
    rcases a1.st with ⟨q, _⟩ | ⟨T, f, oT, q, _⟩
    · exact ⟨_, q, rfl⟩
    · exact ⟨_, q, rfl⟩
  refine wpAny_bind (wpAny_typeOf ty ?_)
  have e1 : Builtin.List.listSameRef (.ref S) (.ref z) = false := by simp [Builtin.List.listSameRef, O.z]
  have e2 : (Value.type "zip" == Value.type "list") = false := by decide
  have e3 : (Value.type "zip" == Value.type "tuple") = false := by decide
  simp only [e1, e2, e3, Bool.or_false, Bool.false_eq_true, if_false]
  refine wpAny_bind ?_
  have it : ∀ {Q : Value → Shared → Prop}, Q (.ref z) { s with heap := hp1 } → wpAny (model prog w) A.in1 (pyIter (.ref z)) Q (fun e s' => R (.error e) s') { s with heap := hp1 } := fun {Q} q => by
    rcases a1.st with ⟨Z, _⟩ | ⟨T, f, oT, Z, _⟩
    · exact wpAny_pyIter_zip Z q
    · refine wpAny_pyIter_slot ty PySem.F.slot_zip_iter (wpAny_call_entry PySem.F.slot_zip_iter ty PySem.F.entry_zip_iter ?_ (PySem.F.args_zip_iter_1 _))
      show wpAny _ _ (ret (.ref z)) _ _ _
      exact wpAny_pure ⟨_, rfl, "zip", _, ty, PySem.F.slot_zip_next.lookup, q⟩
  refine it ?_
  refine wpAny_bind (wpAny_holding ?_)
  unfold Builtin.List.listLengthHint
  refine wpAny_bind (wpAny_specialOf ty zip_no_len ?_)
  show wpAny _ A.in1 (specialOf (Value.ref z) (Str.ofString "__length_hint__") >>= _) _ _ _
  refine wpAny_bind (wpAny_specialOf ty zip_no_hint ?_)
  refine wpAny_pure ?_
  show wpAny _ A.in1 (rule "list.extend.makes-room" >>= fun _ => Builtin.List.listTouch (.ref S) >>= fun _ => again (.builtin "list.extend.loop" ⟨[.ref S, .ref z, .none], []⟩)) _ _ _
  refine wpAny_bind (wpAny_rule ?_)
  refine wpAny_bind ?_
  show wpAny _ A.in1 (updateSeq S (·.push .none) >>= fun _ => updateSeq S (·.pop)) _ _ _
  refine wpAny_bind (wpAny_updateSeq H1 rfl ?_)
  have H2 := Heap.get?_update_self (Obj.mapSeq (·.push Value.none)) H1 rfl
  refine wpAny_updateSeq (hz := by seq_fits) H2 rfl ?_
  have H3 := Heap.get?_update_self (Obj.mapSeq (·.pop)) H2 rfl
  have k3 : ∀ b o, b ≠ S → hp1.get? b = some o → ((hp1.update S (Obj.mapSeq (·.push Value.none))).update S (Obj.mapSeq (·.pop))).get? b = some o :=
    fun b o q e => (Heap.get?_update_other _ _ (Ne.symm q)).trans ((Heap.get?_update_other _ _ (Ne.symm q)).trans e)
  have z3 : ((hp1.update S (Obj.mapSeq (·.push Value.none))).update S (Obj.mapSeq (·.pop))).objs.size = s.heap.objs.size :=
    (Heap.SameBut.update (a := S) ..).1.trans ((Heap.SameBut.update (h := hp1) (a := S) ..).1.trans z1)
  have a3 := a1.upd O k3 fun o e => ⟨_, H3⟩
  refine wpAny_pure ⟨plainId_quiet F.plain_extend_loop _, zt_loop (base := s.heap.objs.size) hh D O hn hz .none hb n 0 _ [] _ (Nat.sub_zero n) (Nat.zero_le _) rfl (Nat.le_of_eq z3.symm) a3 ⟨(fun _ h => nomatch h), List.nodup_nil, fun j t h => by simp at h⟩ H3 fun h' ts' c' q1 q2 q3 q4 => ?_⟩
  exact hR h' ts' c' q1 q2 q3 fun b o n1 n2 n3 n4 n5 e => q4 b o n1 n2 n3 n4 n5 (k3 b o n5 (k1 b o n5 e))
end
section
variable {prog : Program} {w : World} {A : Around} {E : Value → Shared → Prop} {s : Shared}
/-- list(z), z a zip of two tuples that nobody has begun -/
theorem zt_list {z TI TO i1 i2 l1 l2 : Addr} {xs ys : Array Value} {Q : Value → Shared → Prop} (hh : A.handled = none) (D : ZipApart z TI TO i1 i2 l1 l2) (hz : min xs.size ys.size ≤ sizeLine)
    (hb : z < s.heap.objs.size ∧ TI < s.heap.objs.size ∧ TO < s.heap.objs.size ∧ i1 < s.heap.objs.size ∧ i2 < s.heap.objs.size ∧ l1 < s.heap.objs.size ∧ l2 < s.heap.objs.size) (a : ZSt z TI TO i1 i2 l1 l2 xs ys 0 s.heap)
    (hR : ∀ h' ts' c', ts'.length = min xs.size ys.size → ZGot xs ys (s.heap.objs.size + 1) h' ts' → h'.get? s.heap.objs.size = some { cls := .type "list", dict := none, data := .seq (ts'.map Value.ref).toArray c', slots := #[] } →
      (∀ b o, b ≠ z → b ≠ TO → b ≠ i1 → b ≠ i2 → s.heap.get? b = some o → h'.get? b = some o) → Q (.ref s.heap.objs.size) { s with heap := h' }) :
    wpAny (model prog w) A (call (.type "list") [.ref z]) Q E s := by
  obtain ⟨b1, b2, b3, b4, b5, b6, b7⟩ := hb
  have O : ZOff z TI TO i1 i2 l1 l2 s.heap.objs.size := ⟨Nat.ne_of_gt b1, Nat.ne_of_gt b2, Nat.ne_of_gt b3, Nat.ne_of_gt b4, Nat.ne_of_gt b5, Nat.ne_of_gt b6, Nat.ne_of_gt b7⟩
  refine callType_codes (Q₁ := fun obj s₁ => obj = .ref s.heap.objs.size ∧ s₁ = { s with heap := s.heap.push { cls := .type "list", data := .seq #[] } }) PySem.F.called_list (PySem.F.typeCall_list_1 _) PySem.F.entry_list_init (code_list_new _ ⟨rfl, rfl⟩) fun obj s₁ h₁ => ?_
  obtain ⟨rfl, rfl⟩ := h₁
  have hS : (s.heap.push { cls := .type "list", data := .seq #[] }).get? s.heap.objs.size = some { cls := .type "list", data := .seq #[] } := Heap.get?_push_size _ rfl
  have ez : (s.heap.push { cls := .type "list", data := .seq #[] }).objs.size = s.heap.objs.size + 1 := Heap.size_push ..
  have up : ∀ {c}, c < s.heap.objs.size → c < (s.heap.push { cls := .type "list", data := .seq #[] }).objs.size := fun q => by rw [ez]; exact Nat.lt_succ_of_lt q
  have a' : ZSt z TI TO i1 i2 l1 l2 xs ys 0 (s.heap.push { cls := .type "list", data := .seq #[] }) := a.upd O (fun b o _ e => Heap.get?_push_of_some _ e) fun o e => ⟨_, Heap.get?_push_of_some _ e⟩
  refine ⟨⟨_, hS, rfl⟩, PySem.F.args_list_init_2 _ _, zt_init (A := A.in1) hh D O rfl hz ⟨up b1, up b3, up b4, up b5, by show _ < _; rw [ez]; exact Nat.lt_succ_self _⟩ a' hS fun h' ts' c' q1 q2 q3 q4 => ?_⟩
  refine ⟨rfl, hR h' ts' c' q1 (by rw [← ez]; exact q2) q3 fun b o n1 n2 n3 n4 e => q4 b o n1 n2 n3 n4 (Nat.ne_of_lt (Heap.lt_size e)) (Heap.get?_push_of_some _ e)⟩
end
def layT : List (V × V) → Hp → (List Addr → Hp → Prop) → Prop
  | [], H, Q => Q [] H
  | (x, y) :: r, H, Q => ∀ t ob, H t = none → Obj.dict ob = none → layT r (upd H t (.frz ob (.tup [x, y]))) fun ts H' => Q (t :: ts) H'
def tLzip (K : PySem.W.Frag) (ta : TA) : TE := fun σ H Q => ta σ H fun vs H1 => ∃ a b xs ys, vs = [.ref a, .ref b] ∧ SqT K H1 a xs ∧ SqT K H1 b ys ∧
  layT (xs.zip ys) H1 fun ts H2 => ∀ p, H2 p = none → Q (.ref p) (upd H2 p (.lst (ts.map V.ref)))
section
variable {X : Cx}
theorem layT_run {pins : List (Addr × Obj)} {σ : L2.St} {H0 : Hp} {s : Shared} {h' : Heap} {tk : Nat} (I0 : Inv X pins σ H0 s) : ∀ (zs : List (V × V)) (ts : List Addr) (H : Hp) (Q : List Addr → Hp → Prop), Inv X pins σ H { s with heap := h', toks := tk } → ts.length = zs.length → ts.Nodup →
    (∀ (j : Nat) (t : Addr) (z : V × V), ts[j]? = some t → zs[j]? = some z → s.heap.objs.size ≤ t ∧ H t = none ∧ ∃ ob, Obj.dict ob = none ∧ ∀ H2, ObjOk X.prog X.w H2 h' t (.frz ob (.tup [z.1, z.2]))) → layT zs H Q →
    ∃ H2, Inv X pins σ H2 { s with heap := h', toks := tk } ∧ (∀ b, b ∉ ts → H2 b = H b) ∧ Q ts H2
  | [], [], H, Q, I, _, _, _, q => ⟨H, I, fun _ _ => rfl, q⟩
  | [], _ :: _, _, _, _, h, _, _, _ => nomatch h
  | _ :: _, [], _, _, _, h, _, _, _ => nomatch h
  | (x, y) :: zs, t :: ts, H, Q, I, hl, hn, hg, q => by
    obtain ⟨g1, g2, ob, g4, g3⟩ := hg 0 t (x, y) rfl rfl
    have I2 : Inv X pins σ (upd H t (.frz ob (.tup [x, y]))) { s with heap := h', toks := tk } := I.take (h' := h') (t' := tk) (fun b ob _ e => e) (I0.fpOk g1 g2) (g3 _)
    rw [List.nodup_cons] at hn
    obtain ⟨H2, I3, k, r⟩ := layT_run I0 zs ts _ _ I2 (by simpa using hl) hn.2 (fun j c z hj hz => by
      obtain ⟨c1, c2, c3⟩ := hg (j + 1) c z hj hz
      exact ⟨c1, by rw [upd_ne (fun e => hn.1 (by rw [← e]; exact List.mem_of_getElem? hj))]; exact c2, c3⟩) (q t ob g2 g4)
    exact ⟨H2, I3, fun b hb => by rw [k b (fun e => hb (List.mem_cons_of_mem _ e)), upd_ne (fun e => hb (by rw [e]; exact List.mem_cons_self ..))], r⟩
theorem vals_refs' : ∀ as : List Addr, Vals (as.map V.ref) (as.map Value.ref)
  | [] => .nil
  | _ :: as => .cons rfl (vals_refs' as)
theorem pe_lzip {e e2 : Expr} {ta : TA} {p p2 pos pos2 : Pos} (hc : X.calm = true) (hg : Gl X "list") (hm : X.mg "list" = none) (hg2 : Gl X "zip") (hm2 : X.mg "zip" = none) (ha : PA X [e, e2] ta)
    (hs : starEach [.Call (.Name "zip" p2) [e, e2] [] pos2] X.env = (false, eval (.Call (.Name "zip" p2) [e, e2] [] pos2) X.env) :: starEach [] X.env := by rfl)
    (hs2 : starEach [e, e2] X.env = (false, eval e X.env) :: starEach [e2] X.env := by rfl) (hpl : (backTo pos2 (starEach [e2] X.env)).any (·.1) = false := by rfl) :
    PE X (.Call (.Name "list" p) [.Call (.Name "zip" p2) [e, e2] [] pos2] [] pos) (tLzip X.K ta) := by
  refine ⟨fun pins s σ H Q I hq => ?_⟩
  refine wpAny_Call_Name_kw (ld_blt I hg hm (show bootBuiltins "list" = some (.type "list") by decide +kernel) ?_)
  refine PyProof.Rows.callWith_type1 ?_ hs rfl
  rw [hs]
  show wpAny _ _ (spliced ((false, eval (.Call (.Name "zip" p2) [e, e2] [] pos2) X.env) :: backTo pos (starEach [] X.env))) _ _ s
  refine Calls.spliced_cons ?_
  refine wpAny_Call_Name_kw (ld_blt I hg2 hm2 PyProof.Rows.boot_zip (PyProof.Rows.callWith_type1 (thn (ha.run pos2 pins s σ H _ I hq) fun us s1 ⟨vs, H1, I1, r1, q1⟩ => ?_) hs2 hpl))
  obtain ⟨a, b, xs, ys, rfl, hx, hy, q⟩ := q1
  obtain ⟨u, us', rfl, ru, rr⟩ : ∃ u us', us = u :: us' ∧ u = Value.ref a ∧ Vals [.ref b] us' := by cases r1 with | cons h t => exact ⟨_, _, rfl, h, t⟩
  obtain ⟨u2, rfl, ru2⟩ : ∃ u2, us' = [u2] ∧ u2 = Value.ref b := by cases rr with | cons h t => cases t; exact ⟨_, rfl, h⟩
  subst ru ru2
  obtain ⟨its, rv, pl, z1⟩ := I1.tuple hx
  obtain ⟨its2, rv2, pl2, z2⟩ := I1.tuple hy
  obtain ⟨o1, ho1, _⟩ := id pl
  obtain ⟨o2, ho2, _⟩ := id pl2
  have la := Heap.lt_size ho1
  have lb := Heap.lt_size ho2
  have l1 := rv.length
  have l2 := rv2.length
  refine call_zipT (show s1.heap.IsTuple a its.toArray from pl) (show s1.heap.IsTuple b its2.toArray from pl2) fun h1 hz hTI hTO g1 g2 hsz hk => Calls.spliced_nil ?_
  have D := PySem.W.ktu_apart s1.heap.objs.size a b la lb
  have I2 : Inv X pins σ H1 { s1 with heap := h1 } := I1.kept (t' := s1.toks) hk
  refine zt_list (s := { s1 with heap := h1 }) (I1.ok.hd hc) D (xs := its.toArray) (ys := its2.toArray) (by simp only [List.size_toArray]; omega) ⟨?_, ?_, ?_, ?_, ?_, ?_, ?_⟩ ⟨hTI, g1, g2, (show s1.heap.IsTuple a its.toArray from pl).at fun o e => hk _ o e, (show s1.heap.IsTuple b its2.toArray from pl2).at fun o e => hk _ o e, .inl ⟨hz, _, _, hTO⟩⟩ fun h' ts c n1 got hS kp => ?_
  · show _ < h1.objs.size; rw [hsz]; exact Nat.lt_succ_self _
  · show _ < h1.objs.size; rw [hsz]; exact Nat.add_lt_add_left (by decide) _
  · show _ < h1.objs.size; rw [hsz]; exact Nat.add_lt_add_left (by decide) _
  · show _ < h1.objs.size; rw [hsz]; exact Nat.lt_add_of_pos_right (by decide)
  · show _ < h1.objs.size; rw [hsz]; exact Nat.add_lt_add_left (by decide) _
  · show _ < h1.objs.size; rw [hsz]; exact Nat.lt_of_lt_of_le la (Nat.le_add_right _ _)
  · show _ < h1.objs.size; rw [hsz]; exact Nat.lt_of_lt_of_le lb (Nat.le_add_right _ _)
  have kS : ∀ b o, s1.heap.get? b = some o → h'.get? b = some o := fun b o e => by
    have hlt := Heap.lt_size e
    exact kp b o (Nat.ne_of_lt (Nat.lt_of_lt_of_le hlt (Nat.le_add_right _ _))) (Nat.ne_of_lt (Nat.lt_of_lt_of_le hlt (Nat.le_add_right _ _))) (Nat.ne_of_lt hlt) (Nat.ne_of_lt (Nat.lt_of_lt_of_le hlt (Nat.le_add_right _ _))) (hk b o e)
  have I3 : Inv X pins σ H1 { s1 with heap := h' } := I1.kept (t' := s1.toks) kS
  have lz : (xs.zip ys).length = ts.length := by rw [n1]; simp; omega
  have sz1 : h1.objs.size = s1.heap.objs.size + 5 := hsz
  have low : ∀ t ∈ ts, s1.heap.objs.size ≤ t := fun t ht => by
    have g : h1.objs.size + 1 ≤ t := got.low t ht
    rw [sz1] at g
    exact Nat.le_trans (Nat.le_add_right _ 6) g
  obtain ⟨H2, I4, k4, q4⟩ := layT_run (h' := h') (tk := s1.toks) I1 (xs.zip ys) ts H1 _ I3 lz.symm got.nd (fun j t z hj hz => by
    obtain ⟨x, y, e1, e2, e3⟩ := got.pr j t hj
    obtain ⟨hx', hy'⟩ := List.getElem?_zip_eq_some.mp hz
    obtain ⟨u, hu, ru⟩ := rv.get hx'
    obtain ⟨u2, hu2, ru2⟩ := rv2.get hy'
    have w1 : x = u := by have e : its[j]? = some x := by simpa using e1
                          rw [hu] at e; exact (Option.some.inj e).symm
    have w2 : y = u2 := by have e : its2[j]? = some y := by simpa using e2
                           rw [hu2] at e; exact (Option.some.inj e).symm
    subst w1 w2
    have hl := low t (List.mem_of_getElem? hj)
    exact ⟨hl, I1.hok.fresh hl, _, rfl, fun _ => ⟨e3, by show 2 ≤ sizeLine; decide, [x, y], .cons ru (.cons ru2 .nil), ⟨_, e3, rfl, _, rfl⟩⟩⟩) q
  have hl5 : s1.heap.objs.size ≤ h1.objs.size := by rw [sz1]; exact Nat.le_add_right _ _
  have nS : h1.objs.size ∉ ts := fun e => absurd (show h1.objs.size + 1 ≤ h1.objs.size from got.low _ e) (Nat.not_succ_le_self _)
  have fS : H2 h1.objs.size = none := by rw [k4 _ nS]; exact I1.hok.fresh hl5
  have I5 : Inv X pins σ (upd H2 h1.objs.size (.lst (ts.map V.ref))) { s1 with heap := h' } :=
    I4.take (h' := h') (t' := s1.toks) (fun b ob _ e => e) (I1.fpOk hl5 fS) ⟨by rw [List.length_map, n1]; simp; omega, ts.map Value.ref, c, vals_refs' ts, hS⟩
  exact ⟨.ref h1.objs.size, _, I5, rfl, q4 _ fS⟩
end
def zipT (xs ys : List D) : List D := (xs.zip ys).map fun p => .tup [p.1, p.2]
theorem zipT_map {α β : Type} (l : List α) (m : List β) (f : α → D) (g : β → D) : zipT (l.map f) (m.map g) = (l.zip m).map fun p => .tup [f p.1, g p.2] := by
  unfold zipT
  rw [List.zip_map, List.map_map]
  rfl
section
variable {K : PySem.W.Frag} {mg : Str → Option Value}
theorem layT_d : ∀ {vs ws : List V} {xs ys : List D} {F : Hp} {μ : Sto} {H : Hp} {Q : List Addr → Hp → Prop}, Ok K mg F μ H → Dts K mg F vs xs → Dts K mg F ws ys →
    (∀ ts F' H', Ext F μ H F' μ H' → Ok K mg F' μ H' → Dts K mg F' (ts.map V.ref) (zipT xs ys) → Q ts H') → layT (vs.zip ws) H Q
  | [], _, _, _, F, μ, H, Q, o, r, _, k => by
    cases r
    exact k [] F H (Ext.refl ..) o (by simp only [zipT, List.zip_nil_left, List.map_nil]; exact .nil)
  | _ :: _, [], _, _, F, μ, H, Q, o, r, r2, k => by
    cases r2
    exact k [] F H (Ext.refl ..) o (by simp only [zipT, List.zip_nil_right, List.map_nil]; exact .nil)
  | v :: vs, w :: ws, _, _, F, μ, H, Q, o, r, r2, k => by
    cases r with
    | cons a r =>
      cases r2 with
      | cons b r2 =>
        intro t ob ht hob
        obtain ⟨g1, g2, g3⟩ := newTup o (.cons a (.cons b .nil)) ht hob
        refine layT_d g2 (r.mono g1.mono) (r2.mono g1.mono) fun ts F' H' e o' q => k _ F' H' (g1.trans e) o' ?_
        exact .cons (g3.mono e.mono) q
end
@[simp] def dLzipF (t : TAD) : TFD := fun ρ μ Q => t ρ μ fun ds μ1 => match ds with
  | [.tup xs, .tup ys] => Q (zipT xs ys) μ1
  | _ => False
section
variable {X : Cx} {e e2 : Expr} {t : TAD} {p p2 pos pos2 : Pos}
theorem df_lzip (hc : X.calm = true) (hg : Gl X "list") (hm : X.mg "list" = none) (hg2 : Gl X "zip") (hm2 : X.mg "zip" = none) (ha : DA X [e, e2] t)
    (hs : starEach [.Call (.Name "zip" p2) [e, e2] [] pos2] X.env = (false, eval (.Call (.Name "zip" p2) [e, e2] [] pos2) X.env) :: starEach [] X.env := by rfl)
    (hs2 : starEach [e, e2] X.env = (false, eval e X.env) :: starEach [e2] X.env := by rfl) (hpl : (backTo pos2 (starEach [e2] X.env)).any (·.1) = false := by rfl) :
    DF X (.Call (.Name "list" p) [.Call (.Name "zip" p2) [e, e2] [] pos2] [] pos) (dLzipF t) := (pe_lzip hc hg hm hg2 hm2 ha hs hs2 hpl).weaken fun σ H Q q => by
  obtain ⟨F, ρ, μ, Qd, R, hd, k⟩ := q
  refine ⟨F, ρ, μ, _, R, hd, fun vs F1 μ1 H1 ds e1 o1 w1 q1 => ?_⟩
  split at q1
  · cases w1 with
    | cons h r =>
      cases r with
      | cons h2 r =>
        cases r
        cases h with
        | tup h r =>
          cases h2 with
          | tup h2 r2 =>
            refine ⟨_, _, _, _, rfl, SqT.mono' o1.sub h.sq, SqT.mono' o1.sub h2.sq, layT_d o1 r r2 fun ts F' H' e o w p hp => ?_⟩
            obtain ⟨g1, g2⟩ := o.layN hp (.lst (ts.map V.ref))
            obtain ⟨f1, f2⟩ := o.fresh hp
            have hp0 : H p = none := (e1.trans e).live p hp
            exact k _ _ _ _ _ _ ((e1.trans e).trans g2) g1 hp0 f1 f2 upd_same w q1
  · exact q1.elim
end
end DL

namespace DL
open PySem PySem.Spec PyProof.Rows L2
@[simp] def dStar (a : TED) (t : TAD) : TAD := fun ρ μ Q => a ρ μ fun x μ1 => match x with
  | .tup xs => t ρ μ1 fun ys μ2 => Q (xs ++ ys) μ2
  | .lst xs => t ρ μ1 fun ys μ2 => Q (xs ++ ys) μ2
  | _ => False
section
variable {X : Cx} {e : Expr} {es : List Expr} {da : TED} {t : TAD} {p : Pos}
theorem da_star (h : DW X e da) (hr : DA X es t) (hs : starEach (.Starred e p :: es) X.env = (true, eval e X.env) :: starEach es X.env := by rfl) : DA X (.Starred e p :: es) (dStar da t) := (StX.pa_star h hr hs).weaken fun σ H Q q => by
  obtain ⟨F, ρ, μ, Qd, R, hd, k⟩ := q
  refine ⟨F, ρ, μ, _, R, hd, fun v F1 μ1 H1 dv e1 o1 w1 q1 => ?_⟩
  split at q1
  · obtain ⟨a, vs, rfl, ha, _, ra⟩ := w1.tup o1
    exact ⟨a, vs, rfl, .inl ha, F1, ρ, μ1, _, R.ext e1 o1, q1, fun us F2 μ2 H2 ds e2 o2 w2 q2 => k (vs ++ us) F2 μ2 H2 _ (e1.trans e2) o2 ((ra.mono e2.mono).append w2) q2⟩
  · obtain ⟨a, vs, rfl, ha, ra⟩ := w1.lst o1
    exact ⟨a, vs, rfl, .inr (.inl (.inl ha)), F1, ρ, μ1, _, R.ext e1 o1, q1, fun us F2 μ2 H2 ds e2 o2 w2 q2 => k (vs ++ us) F2 μ2 H2 _ (e1.trans e2) o2 ((ra.mono e2.mono).append w2) q2⟩
  · exact q1.elim
end
def rngC (lo c : Int) (n : Nat) : List D := (List.range n).map fun k => .int (lo + (k : Nat) * c)
@[simp] def dRng3 (t : TAD) : TSrc := fun ρ μ Q => t ρ μ fun xs μ1 => match xs with
  | [.int i, .int j, .int c] => c = -1 ∧ rngOk i ∧ rngOk j ∧ Q (rngC i (-1) (i - j).toNat) still μ1
  | _ => False
section
variable {X : Cx} {tg e e2 e3 : Expr} {t : TAD} {p pos : Pos}
end
section
variable {X : Cx} {B : Bs}
@[simp] def dAugP (sl : Nat) (r : RD2) (i d : TED) : TSD := fun E ρ μ => ∃ xs, ρ[sl]? = some (some (.own xs)) ∧ i ρ μ fun k μ1 => ∃ n j x, k = .int n ∧ ixN xs.length n = some j ∧ xs[j]? = some x ∧ d ρ μ1 fun y μ2 => r x y μ2 fun z μ3 => E.nx (ρ.set sl (some (.own (xs.set j z)))) μ3
end
def rdIMul : RD2 := rdI (fun i j => (-18446744073709551616 < i ∧ i < 18446744073709551616) ∨ (-18446744073709551616 < j ∧ j < 18446744073709551616)) fun i j => .int (i * j)
@[simp] theorem rdIMul_i {i j : Int} {μ : Sto} {Q : DK} : rdIMul (.int i) (.int j) μ Q = (((-18446744073709551616 < i ∧ i < 18446744073709551616) ∨ (-18446744073709551616 < j ∧ j < 18446744073709551616)) ∧ Q (.int (i * j)) μ) := rfl
section
variable {X : Cx}
end
section
variable {X : Cx} {o e : Expr} {es : List Expr} {name : Str} {apos cpos : Pos} {id : String} {r : V → List V → Hp → VK → Prop} {rd : RDm} {to : TE} {t : TA} {d : TED} {ta : TAD}
@[simp] def dMtT (rd : RDm) (d : TED) (t : TAD) : TED := fun ρ μ Q => d ρ μ fun x μ1 => match x with
  | .tup xs => t ρ μ1 fun ys μ2 => rd (.tup xs) ys μ2 Q
  | _ => False
end
def rdIndexT : RDm
  | .tup xs, [.int k], μ, Q => ∃ (ns : List Int) (j : Nat), xs = ns.map D.int ∧ ns[j]? = some k ∧ (∀ m, m < j → ns[m]? ≠ some k) ∧ Q (.int j) μ
  | _, _, _, _ => False
def rdIndexL : RDm
  | .lst xs, [.int k], μ, Q => ∃ (ns : List Int) (j : Nat), xs = ns.map D.int ∧ ns[j]? = some k ∧ (∀ m, m < j → ns[m]? ≠ some k) ∧ Q (.int j) μ
  | _, _, _, _ => False
def rdIndexS : RDm
  | .str s, [.str [c]], μ, Q => ∃ j, s.findIdx? (· == c) = some j ∧ Q (.int j) μ
  | _, _, _, _ => False
@[simp] theorem rdIndexT_1 : rdIndexT (.tup xs) [.int k] μ Q = (∃ (ns : List Int) (j : Nat), xs = ns.map D.int ∧ ns[j]? = some k ∧ (∀ m, m < j → ns[m]? ≠ some k) ∧ Q (.int j) μ) := rfl
@[simp] theorem rdIndexL_1 : rdIndexL (.lst xs) [.int k] μ Q = (∃ (ns : List Int) (j : Nat), xs = ns.map D.int ∧ ns[j]? = some k ∧ (∀ m, m < j → ns[m]? ≠ some k) ∧ Q (.int j) μ) := rfl
@[simp] theorem rdIndexS_1 : rdIndexS (.str s) [.str [c]] μ Q = (∃ j, s.findIdx? (· == c) = some j ∧ Q (.int j) μ) := rfl
section
variable {K : PySem.W.Frag} {mg : Str → Option Value}
end
def rdDivmod : RDn
  | [.int i, .int j], μ, Q => divOk j ∧ Q (.pr (.int (i / j)) (.int (i % j))) μ
  | _, _, _ => False
@[simp] theorem rdDivmod_1 : rdDivmod [.int i, .int j] μ Q = (divOk j ∧ Q (.pr (.int (i / j)) (.int (i % j))) μ) := rfl
end DL

namespace DL
open PySem PySem.Spec PyProof.Rows L2
@[simp] def dAddF (a b : TED) : TFD := fun ρ μ Q => a ρ μ fun x μ1 => b ρ μ1 fun y μ2 => ∃ xs ys, x = .lst xs ∧ y = .lst ys ∧ xs.length + ys.length ≤ SZ ∧ Q (xs ++ ys) μ2
@[simp] def dMulF (a b : TED) : TFD := fun ρ μ Q => a ρ μ fun x μ1 => b ρ μ1 fun y μ2 => ∃ xs n, x = .lst xs ∧ y = .int n ∧ n ≤ 1000000 ∧ -1000000 ≤ n ∧ xs.length * n.toNat ≤ SZ ∧ Q (repl n.toNat xs) μ2
@[simp] def dListF (t : TAD) : TFD := fun ρ μ Q => t ρ μ fun ds μ1 => match ds with
  | [.tup xs] => Q xs μ1
  | [.lst xs] => Q xs μ1
  | _ => False
section
variable {X : Cx} {e f : Expr} {da db : TED} {pos p : Pos} {t : TAD}
end
def rdIAdd : RD2
  | .int i, .int j, μ, Q => Q (.int (i + j)) μ
  | .str s, .str t, μ, Q => s.length + t.length ≤ SZ ∧ Q (.str (s ++ t)) μ
  | _, _, _, _ => False
@[simp] theorem rdIAdd_1 : rdIAdd (.int i) (.int j) μ Q = Q (.int (i + j)) μ := rfl
@[simp] theorem rdIAdd_2 : rdIAdd (.str s) (.str t) μ Q = (s.length + t.length ≤ SZ ∧ Q (.str (s ++ t)) μ) := rfl
@[simp] def dPar4 (i j k l : Nat) (a b : TRD) (c d : TED) : TSD := fun E ρ μ => a ρ μ fun s μ1 => b ρ μ1 fun t μ2 => c ρ μ2 fun x μ3 => d ρ μ3 fun y μ4 => E.nx ((((ρ.set i (some s)).set j (some t)).set k (some (.val x))).set l (some (.val y))) μ4
section
variable {X : Cx} {B : Bs} {i j k l : Nat} {a b c d t1 t2 t3 t4 : Expr} {da db : TRD} {dc dd : TED} {pt pt2 pos : Pos} {kt k2 : Nat}
end
end DL

namespace DL
open PySem PySem.Spec PyProof.Rows L2
/-- each sheet behind the one before it -/
def prs {α : Type} (ws : List α) : List (α × α) := ws.zip (ws.drop 1)
theorem prs_len {α : Type} (ws : List α) : (prs ws).length = ws.length - 1 := by simp [prs]
theorem prs_mem {α : Type} {ws : List α} {p : α × α} (h : p ∈ prs ws) : p.1 ∈ ws ∧ p.2 ∈ ws :=
  ⟨(List.of_mem_zip (a := p.1) (b := p.2) h).1, List.mem_of_mem_drop (List.of_mem_zip (a := p.1) (b := p.2) h).2⟩
theorem prs_cons {α : Type} (a b : α) (r : List α) : prs (a :: b :: r) = (a, b) :: prs (b :: r) := rfl
abbrev shD (ws : List (List Nat)) : D := .tup (ws.map D.str)
abbrev pkD (ps : List (List Nat)) : D := .tup (ps.map fun p => .tup (nats p))
def pcks (ws : List (List Nat)) : List (List Nat) := (prs ws).map fun p => fp p.1 p.2 0
def lens (ws : List (List Nat)) : Nat := (ws.map List.length).sum
def fewS (ws : List (List Nat)) : Int := (lens ws : Int) - (lens (pcks ws) : Nat)
theorem isum_nat : ∀ l : List Nat, (l.map fun n : Nat => (n : Int)).sum = ((l.sum : Nat) : Int)
  | [] => rfl
  | a :: r => by simp [isum_nat r]
def ShOk (ws : List (List Nat)) : Prop := ws.length ≤ 1000 ∧ ∀ w ∈ ws, w.length ≤ 1000
def sp_pairs_of : DSp := fun ds μ Q _ => ∃ ws : List (List Nat), ds = [shD ws] ∧ ws.length ≤ 1000 ∧ Q (.lst ((prs ws).map fun p => .tup [.str p.1, .str p.2])) μ
/-- pairs_of(sheets); slots 0:sheets -/
def b_pairs_of : TSD :=
  (dRet (dF (dLzipF (dCons (dVar 0) (dCons (dSl (dLook 0) (dPart (dC (.int 1))) dNoPart) dNil)))))
theorem len_pairs_of : ∀ ds μ Q E, sp_pairs_of ds μ Q E → ds.length = 1 := by
  rintro ds μ Q E ⟨ws, rfl, _⟩; rfl
theorem ok_pairs_of : ∀ ds μ Q E, sp_pairs_of ds μ Q E → b_pairs_of { nx := fun _ μ' => Q .non μ', rt := Q } (startD 1 ds) μ := by
  rintro ds μ Q E ⟨ws, rfl, hl, q⟩
  unfold b_pairs_of
  simp
  rw [show (1 : Int) = ((1 : Nat) : Int) from rfl, cut_drop, ← List.map_drop, zipT_map]
  exact q
def sp_count_letters : DSp := fun ds μ Q _ => ∃ ws : List (List Nat), ds = [shD ws] ∧ ShOk ws ∧ Q (.int (lens ws)) μ
/-- count_letters(sheets); slots 0:sheets 1:word -/
def b_count_letters : TSD :=
  (dRet (dFn rdSum (dCons (dF (dLc [1] (dEach (dVar 0)) (dName 1) dYes (dFn rdLen (dCons (dLook 1) dNil)))) dNil)))
theorem len_count_letters : ∀ ds μ Q E, sp_count_letters ds μ Q E → ds.length = 1 := by
  rintro ds μ Q E ⟨ws, rfl, _⟩; rfl
theorem ok_count_letters : ∀ ds μ Q E, sp_count_letters ds μ Q E → b_count_letters { nx := fun _ μ' => Q .non μ', rt := Q } (startD 2 ds) μ := by
  rintro ds μ Q E ⟨ws, rfl, ⟨hl, hw⟩, q⟩
  unfold b_count_letters
  simp
  refine lcD_list ws D.str (fun w => .int w.length) trivial (by show _ ≤ 16777216; omega) (fun w h k hk => by simp; exact ⟨by have := hw w h; omega, hk⟩) ?_
  refine ⟨ws.map fun w => (w.length : Int), by simp, ?_⟩
  have := isum_nat (ws.map List.length)
  rw [List.map_map] at this
  rw [show (ws.map fun w => (w.length : Int)) = ws.map ((fun n : Nat => (n : Int)) ∘ List.length) from rfl, this]
  exact q
def sp_count_places : DSp := fun ds μ Q _ => ∃ ps : List (List Nat), ds = [pkD ps] ∧ ShOk ps ∧ Q (.int (lens ps)) μ
/-- count_places(picks); slots 0:picks 1:pick -/
def b_count_places : TSD :=
  (dRet (dFn rdSum (dCons (dF (dLc [1] (dEach (dVar 0)) (dName 1) dYes (dFn rdLen (dCons (dLook 1) dNil)))) dNil)))
theorem len_count_places : ∀ ds μ Q E, sp_count_places ds μ Q E → ds.length = 1 := by
  rintro ds μ Q E ⟨ws, rfl, _⟩; rfl
theorem ok_count_places : ∀ ds μ Q E, sp_count_places ds μ Q E → b_count_places { nx := fun _ μ' => Q .non μ', rt := Q } (startD 2 ds) μ := by
  rintro ds μ Q E ⟨ws, rfl, ⟨hl, hw⟩, q⟩
  unfold b_count_places
  simp
  refine lcD_list ws (fun p => .tup (nats p)) (fun w => .int w.length) trivial (by show _ ≤ 16777216; omega) (fun w h k hk => by simpa using hk) ?_
  refine ⟨ws.map fun w => (w.length : Int), by simp, ?_⟩
  have := isum_nat (ws.map List.length)
  rw [List.map_map] at this
  rw [show (ws.map fun w => (w.length : Int)) = ws.map ((fun n : Nat => (n : Int)) ∘ List.length) from rfl, this]
  exact q
theorem pcks_ok {ws : List (List Nat)} (h : ShOk ws) : ShOk (pcks ws) := by
  refine ⟨by unfold pcks; rw [List.length_map, prs_len]; have := h.1; omega, fun p hp => ?_⟩
  obtain ⟨z, hz, rfl⟩ := List.mem_map.mp hp
  have := fp_le z.1 z.2 0
  have := h.2 _ (prs_mem hz).2
  omega
def sp_first_picks : DSp := fun ds μ Q _ => ∃ ws : List (List Nat), ds = [shD ws] ∧ ShOk ws ∧ Q (pkD (pcks ws)) μ
/-- first_picks(sheets); slots 0:sheets 1:one 2:other -/
def b_first_picks : TSD :=
  (dRet (dFn rdTuple (dCons (dF (dLc [1, 2] (dEach (dCall sp_pairs_of (dCons (dVar 0) dNil) noD)) (dUnp 2 (gdCons (dName 1) (gdCons (dName 2) gdNil))) dYes (dCall sp_first_pick (dCons (dVar 1) (dCons (dVar 2) dNil)) noD))) dNil)))
theorem len_first_picks : ∀ ds μ Q E, sp_first_picks ds μ Q E → ds.length = 1 := by
  rintro ds μ Q E ⟨ws, rfl, _⟩; rfl
theorem ok_first_picks : ∀ ds μ Q E, sp_first_picks ds μ Q E → b_first_picks { nx := fun _ μ' => Q .non μ', rt := Q } (startD 3 ds) μ := by
  rintro ds μ Q E ⟨ws, rfl, ⟨hl, hw⟩, q⟩
  unfold b_first_picks
  simp
  refine ⟨ws, rfl, hl, ?_⟩
  have hp := prs_len ws
  refine lcD_list (inv := still) (prs ws) (fun p => .tup [.str p.1, .str p.2]) (fun p => .tup (nats (fp p.1 p.2 0))) trivial (by show _ ≤ 16777216; omega) ?_ ?_
  · rintro p h k hk
    obtain ⟨h1, h2⟩ := prs_mem h
    simp
    exact ⟨p.1, p.2, rfl, hw _ h1, hw _ h2, hk⟩
  · have e : ((prs ws).map fun p => D.tup (nats (fp p.1 p.2 0))) = (pcks ws).map fun p => .tup (nats p) := by unfold pcks; rw [List.map_map]; rfl
    rw [e]
    exact q
def sp_fewest_strokes : DSp := fun ds μ Q _ => ∃ ws : List (List Nat), ds = [shD ws] ∧ ShOk ws ∧ Q (.int (fewS ws)) μ
/-- fewest_strokes(sheets); slots 0:sheets -/
def b_fewest_strokes : TSD :=
  (dRet (dOp rdSub (dCall sp_count_letters (dCons (dVar 0) dNil) noD) (dCall sp_count_places (dCons (dCall sp_first_picks (dCons (dVar 0) dNil) noD) dNil) noD)))
theorem len_fewest_strokes : ∀ ds μ Q E, sp_fewest_strokes ds μ Q E → ds.length = 1 := by
  rintro ds μ Q E ⟨ws, rfl, _⟩; rfl
theorem ok_fewest_strokes : ∀ ds μ Q E, sp_fewest_strokes ds μ Q E → b_fewest_strokes { nx := fun _ μ' => Q .non μ', rt := Q } (startD 1 ds) μ := by
  rintro ds μ Q E ⟨ws, rfl, h, q⟩
  unfold b_fewest_strokes
  simp
  refine ⟨ws, rfl, h, ⟨ws, rfl, h, ⟨pcks ws, rfl, pcks_ok h, ?_⟩⟩⟩
  simp
  exact q
end DL

namespace DL
open PySem PySem.Spec PyProof.Rows L2
end DL

namespace DL
open PySem PySem.Spec PyProof.Rows L2
/-- one sign further in the upper word -/
theorem fp_step (one : List Nat) (c : Nat) (r : List Nat) (b : Nat) (h : b < one.length) : fp one (c :: r) b = if one[b] = c then b :: fp one r (b + 1) else fp one (c :: r) (b + 1) := by
  rw [fp_cons, List.drop_eq_getElem_cons h, List.findIdx?_cons]
  by_cases e : one[b] = c
  · simp [e]
  · rw [fp_cons]
    simp [e]
    cases List.findIdx? (fun x => x == c) (List.drop (b + 1) one) with
    | none => rfl
    | some k =>
      simp
      refine ⟨by omega, by congr 1; omega⟩
theorem fp_end (one other : List Nat) (b : Nat) (h : one.length ≤ b) : fp one other b = [] := by
  cases other with
  | nil => rfl
  | cons c r => rw [fp_cons, List.drop_eq_nil_of_le h]; rfl
end DL

namespace DL
open PySem PySem.Spec PyProof.Rows L2
def btw (v : D) (lo hi : Int) : Bool := match v with
  | .int i => decide (lo ≤ i) && decide (i ≤ hi)
  | _ => false
def sp_is_between : DSp := fun ds μ Q _ => ∃ (v : D) (lo hi : Int), ds = [v, .int lo, .int hi] ∧ isiOk v = true ∧ Q (.bl (btw v lo hi)) μ
/-- is_between(value, low, high); slots 0:value 1:low 2:high -/
def b_is_between : TSD :=
  (dRet (dAndV (dFn rdIsi (dCons (dLook 0) (dCons (dC (.ty "int")) dNil))) (dAndV (dNotV (dFn rdIsi (dCons (dLook 0) (dCons (dC (.ty "bool")) dNil)))) (dChain rdLe rdLe (dLook 1) (dLook 0) (dLook 2)))))
theorem len_is_between : ∀ ds μ Q E, sp_is_between ds μ Q E → ds.length = 3 := by
  rintro ds μ Q E ⟨v, lo, hi, rfl, _⟩; rfl
theorem ok_is_between : ∀ ds μ Q E, sp_is_between ds μ Q E → b_is_between { nx := fun _ μ' => Q .non μ', rt := Q } (startD 3 ds) μ := by
  rintro ds μ Q E ⟨v, lo, hi, rfl, hv, q⟩
  unfold b_is_between
  cases v <;> first | exact (Bool.false_ne_true hv).elim | skip
  case int i =>
    simp
    have q : Q (.bl (decide (lo ≤ i) && decide (i ≤ hi))) μ := q
    split
    · rename_i h; rw [decide_eq_true h] at q; simpa using q
    · rename_i h; rw [decide_eq_false h] at q; simpa using q
  all_goals
    unfold btw at q
    simp
    exact q
/-- the letters of one at the places l, one behind the other -/
def inc (l : List Nat) : Bool := (l.zip (l.drop 1)).all fun p => decide (p.1 < p.2)
end DL

namespace DL
open PySem PySem.Spec PyProof.Rows L2
open RZ (nextOf_tuple_item nextOf_tuple_end)
/-- the iterator at i, which walks over the items xs that are kept at l -/
structure Wlk (i l : Addr) (xs : Array Value) where
  It : Nat → Heap → Prop
  Src : Heap → Prop
  it : ∀ {k h h'}, It k h → (∀ o, h.get? i = some o → h'.get? i = some o) → It k h'
  src : ∀ {h h'}, Src h → (∀ o, h.get? l = some o → h'.get? l = some o) → Src h'
  item : ∀ {prog : Program} {w : World} {A : Around} {E : Value → Shared → Prop} {s : Shared} {k : Nat} {x : Value} {Q : Value → Shared → Prop}, It k s.heap → Src s.heap → xs[k]? = some x →
    (∀ h', It (k + 1) h' → Heap.SameBut i s.heap h' → Q x { s with heap := h' }) → wpAny (model prog w) A (Builtin.SmallTypes.nextOf (.ref i)) Q E s
  fin : ∀ {prog : Program} {w : World} {A : Around} {E : Value → Shared → Prop} {s : Shared} {k : Nat} {Q : Value → Shared → Prop}, A.handled = none → It k s.heap → Src s.heap → xs[k]? = none →
    (∀ h' e, Heap.ExtBut i s.heap h' → (∃ o, h'.get? e = some o ∧ o.cls = .type "StopIteration") → E (.ref e) { s with heap := h' }) → wpAny (model prog w) A (Builtin.SmallTypes.nextOf (.ref i)) Q E s
def Wlk.list (i l : Addr) (xs : Array Value) : Wlk i l xs where
  It := fun k h => h.IsListIter i l k
  Src := fun h => h.IsList l xs
  it := fun a b => a.at b
  src := fun a b => a.at b
  item := fun a b c d => wpAny_nextOf_list_item a b c d
  fin := fun a b c d e => wpAny_nextOf_list_end a b c d e
def Wlk.tup (i l : Addr) (xs : Array Value) : Wlk i l xs where
  It := fun k h => h.IsTupleIter i l k
  Src := fun h => h.IsTuple l xs
  it := fun a b => a.at b
  src := fun a b => a.at b
  item := fun a b c d => nextOf_tuple_item a b c d
  fin := fun a b c d e => nextOf_tuple_end a b c d e
section
variable {prog : Program} {w : World} {A : Around} {E : Value → Shared → Prop} {s : Shared} {z TI TO i1 i2 l1 l2 : Addr} {k1 k2 : Nat} {xs ys : Array Value} {a b : Value}
end
section
variable {prog : Program} {w : World} {A : Around} {E : Value → Shared → Prop} {s : Shared}
end
section
variable {X : Cx} {e e2 : Expr} {p pos tpos : Pos} {elts : List Expr} {kk : Nat}
/-- zip of a list and a tuple -/
@[simp] def dZipM (t : TAD) : TSrc := fun ρ μ Q => t ρ μ fun xs μ1 => match xs with
  | [.lst xs, .tup ys] => Q (zipD xs ys) still μ1
  | _ => False
end
end DL

namespace DL
open PySem PySem.Spec PyProof.Rows L2
open TS (TupInts intsOf)
open PySem.W
section
variable {prog : Program} {w : World} {A : Around} {E : Value → Shared → Prop} {s : Shared}
end
abbrev tupD (q : List Nat) : D := .tup (nats q)
abbrev intL (q : List Nat) : List Int := q.map fun n : Nat => (n : Int)
@[simp] def dSortF (t : TAD) : TFD := fun ρ μ Q => t ρ μ fun ds μ1 => match ds with
  | [.lst xs] => ∃ ls : List (List Nat), xs = ([] :: ls).map tupD ∧ ∀ ls' : List (List Nat), ls'.Perm ([] :: ls) → ls'.Pairwise (fun p q => HT.lexLt (intL q) (intL p) = false) → Q (ls'.map tupD) μ1
  | _ => False
end DL

namespace DL
open PySem PySem.Spec PyProof.Rows L2
def rdCountL : RDm
  | .lst xs, [.int k], μ, Q => ∃ ns : List Int, xs = ns.map D.int ∧ Q (.int (ns.count k : Nat)) μ
  | _, _, _, _ => False
@[simp] theorem rdCountL_1 {xs : List D} {k : Int} {μ : Sto} {Q : DK} : rdCountL (.lst xs) [.int k] μ Q = (∃ ns : List Int, xs = ns.map D.int ∧ Q (.int (ns.count k : Nat)) μ) := rfl
end DL

namespace DL
open PySem PySem.Spec PyProof.Rows L2
def rdInDat (neg : Bool) : RD2
  | x, .lst ds, μ, Q => x.ic ∧ D.ics ds ∧ x.dp ≤ 50 ∧ Q (.bl (if neg then !(ds.any fun z => D.eqv z x) else ds.any fun z => D.eqv z x)) μ
  | _, _, _, _ => False
@[simp] theorem rdInDat_1 (neg : Bool) {x : D} {ds : List D} {μ : Sto} {Q : DK} : rdInDat neg x (.lst ds) μ Q = (x.ic ∧ D.ics ds ∧ x.dp ≤ 50 ∧ Q (.bl (if neg then !(ds.any fun z => D.eqv z x) else ds.any fun z => D.eqv z x)) μ) := rfl
end DL

namespace DL
open PySem PySem.Spec PyProof.Rows L2 PySem.W PySem.Calls
section
open Builtin Builtin.ObjectAttr
variable {prog : Program} {w : World} {A : Around} {R : Result → Shared → Prop} {hp : Heap} {g : Array GenState} {d : Drawn} {t : Nat} {os : OsState}
end
section
variable {prog : Program} {w : World} {A : Around} {R : Result → Shared → Prop} {s : Shared} {K : Frag} {mg : Str → Option Value} {C fI : Addr} {x f : Str} {B newId initId : String} {bmB : List Value}
end
section
variable {X : Cx} {C fI : Addr} {x f : Str} {B newId initId : String} {bmB : List Value}
end
end DL

namespace DL
open PySem PySem.Spec PyProof.Rows L2
/-- an exception that is made, over data -/
abbrev TXD := DEnv → Sto → DXK → Prop
@[simp] def dMkF (c f : Str) (t : TAD) : TXD := fun ρ μ Q => t ρ μ fun ds μ1 => match ds with
  | [d] => Q c [(f, d)] μ1
  | _ => False
@[simp] def dMk0 (c : Str) : TXD := fun _ μ Q => Q c [] μ
section
variable {X : Cx} {x f : Str} {k : Nat} {a e : Expr} {t : TAD} {d : TXD} {p pos : Pos} {B : Bs}
theorem XD.mono {K : PySem.W.Frag} {mg : Str → Option Value} {H0 H1 F H : Hp} {μ : Sto} {cv : Value} {od : Option Addr} {c : Str} {fs : List (Str × D)} (h : ∀ a, H1 a = none → H0 a = none) (x : XD K mg H1 F μ H cv od c fs) : XD K mg H0 F μ H cv od c fs := by
  obtain ⟨C, h1, h2, h3⟩ := x
  refine ⟨C, h1, h2, ?_⟩
  rcases h3 with h3 | ⟨d, vfs, a1, a2, a3, a4⟩
  · exact .inl h3
  · exact .inr ⟨d, vfs, a1, a2, h d a3, a4⟩
@[simp] def dRaise (d : TXD) (W : DEnv → DXK) : TSD := fun _ ρ μ => d ρ μ (W ρ)
end
section
variable {P : Program} {w : World} {K : PySem.W.Frag} {mg : Str → Option Value} {base : Heap} {k n : Nat} {f : Addr} {fd : FuncData} {ps : List Str} {S : DSp}
end
section
variable {X : Cx} {x : Str} {k : Nat} {a b e : Expr} {es : List Expr} {t : TAD} {tt : TTD} {d da db : TED} {p pos : Pos} {B : Bs} {S : DSp} {W : DEnv → DXK}
@[simp] def dCallX (S : DSp) (t : TAD) (W : DEnv → DXK) : TED := fun ρ μ Q => t ρ μ fun ds μ1 => S ds μ1 Q (W ρ)
@[simp] def dExprX (d : TED) : TSD := fun D ρ μ => d ρ μ fun _ μ1 => D.nx ρ μ1
end
end DL

namespace DL
open PySem PySem.Spec PyProof.Rows L2
/-- the exception's own dict, in the store and out of it -/
def sdel (μ : Sto) (a : Addr) : Sto := fun b => if b = a then none else μ b
def excU (od : Option Addr) (μ : Sto) : Sto := match od with
  | none => μ
  | some d => sdel μ d
section
variable {K : PySem.W.Frag} {mg : Str → Option Value} {B : Bs} {F F' H H' : Hp} {μ μ' : Sto} {ρ : DEnv} {σ : L2.St}
theorem RelB.excU {od : Option Addr} (r : RelB K mg B F ρ μ σ H) : RelB K mg B F ρ (excU od μ) σ H := by
  cases od with
  | none => exact r
  | some d =>
    have le : ∀ {a : Addr}, μ a = none → sdel μ d a = none := fun {a} h => by
      unfold sdel
      split
      · rfl
      · exact h
    have ge : ∀ {a : Addr} {m : MO}, sdel μ d a = some m → μ a = some m := fun {a m} h => by
      unfold sdel at h
      split at h
      · cases h
      · exact h
    refine ⟨⟨⟨r.rel.ok.sub, fun a m e => r.rel.ok.dis a m (ge e), fun a m e => r.rel.ok.sto a m (ge e)⟩, r.rel.len, fun i s e => ?_, r.rel.apart⟩, ⟨r.ext.mono, fun a o e n => ?_, r.ext.live⟩, r.new⟩
    · obtain ⟨v, g1, g2⟩ := r.rel.slot i s e
      refine ⟨v, g1, ?_⟩
      cases s with
      | val d' => exact g2
      | own xs =>
        obtain ⟨a, vs, q1, q2, q3, q4, q5⟩ := g2
        exact ⟨a, vs, q1, q2, le q3, q4, q5⟩
    · obtain ⟨g1, g2, g3⟩ := r.ext.keep a o e n
      exact ⟨g1, g2, le g3⟩
end
/-- the ends of an except suite -/
def exD (i : Nat) (od : Option Addr) (E : DEnds) : DEnds := { nx := fun ρ μ => E.nx (ρ.set i none) (excU od μ), rt := fun d μ => E.rt d (excU od μ), bk := fun ρ μ => E.bk (ρ.set i none) (excU od μ), ct := fun ρ μ => E.ct (ρ.set i none) (excU od μ) }
@[simp] theorem exD_rt {i : Nat} {od : Option Addr} {E : DEnds} {d : D} {μ : Sto} : (exD i od E).rt d μ = E.rt d (excU od μ) := rfl
@[simp] theorem exD_nx {i : Nat} {od : Option Addr} {E : DEnds} {ρ : DEnv} {μ : Sto} : (exD i od E).nx ρ μ = E.nx (ρ.set i none) (excU od μ) := rfl
section
variable {X : Cx} {B : Bs} {x n : Str} {cv : Value} {i : Nat} {body suite : List Stmt} {b₀ : Stmt} {np pos pos' : Pos} {cat : Str → Option Bool} {tb : (DEnv → DXK) → TSD} {ts : Addr → Option Addr → Str → TSD} {Wout : DEnv → DXK}
end
end DL

namespace DL
open PySem PySem.Spec PyProof.Rows L2
structure XTab where
  own : List (Str × Str × Bool)
  blt : List (Str × String × Bool)
def XTab.get (T : XTab) (c q : Str) : Option Bool := (T.own.find? fun z => decide (z.1 = c) && decide (z.2.1 = q)).map (·.2.2)
def XTab.getT (T : XTab) (c : Str) (t : String) : Option Bool := (T.blt.find? fun z => decide (z.1 = c) && decide (z.2.1 = t)).map (·.2.2)
def isCls : D → Bool
  | .gl _ => true
  | .ty _ => true
  | _ => false
def XTab.any (T : XTab) (c : Str) : List D → Option Bool
  | [] => some false
  | .gl q :: r => match T.get c q with
    | some true => if r.all isCls then some true else none
    | some false => T.any c r
    | none => none
  | .ty t :: r => match T.getT c t with
    | some true => if r.all isCls then some true else none
    | some false => T.any c r
    | none => none
  | _ :: _ => none
structure XTabOk (K : PySem.W.Frag) (mg : Str → Option Value) (T : XTab) : Prop where
  own : ∀ z ∈ T.own, ∃ C Q, mg z.1 = some (.ref C) ∧ mg z.2.1 = some (.ref Q) ∧ PySem.W.kitOne K (.ref C) (.ref Q) = some z.2.2 ∧ PySem.W.exmOne K (.ref C) (.ref Q) = some z.2.2 ∧ ExcC K C
  blt : ∀ z ∈ T.blt, ∃ C, mg z.1 = some (.ref C) ∧ PySem.W.kitOne K (.ref C) (.type z.2.1) = some z.2.2 ∧ ExcC K C
section
variable {K : PySem.W.Frag} {mg : Str → Option Value} {T : XTab} {c q : Str} {t : String} {b : Bool} {C : Addr}
theorem XTabOk.get (h : XTabOk K mg T) (e : T.get c q = some b) (hc : mg c = some (.ref C)) : ∃ Q, mg q = some (.ref Q) ∧ PySem.W.kitOne K (.ref C) (.ref Q) = some b ∧ PySem.W.exmOne K (.ref C) (.ref Q) = some b ∧ ExcC K C := by
  unfold XTab.get at e
  obtain ⟨z, hz, rfl⟩ := Option.map_eq_some_iff.mp e
  have hm := List.mem_of_find?_eq_some hz
  have hp := List.find?_some hz
  rw [Bool.and_eq_true, decide_eq_true_eq, decide_eq_true_eq] at hp
  obtain ⟨rfl, rfl⟩ := hp
  obtain ⟨C', Q, h1, h2, h3⟩ := h.own z hm
  rw [hc] at h1
  cases h1
  exact ⟨Q, h2, h3⟩
theorem XTabOk.getT (h : XTabOk K mg T) (e : T.getT c t = some b) (hc : mg c = some (.ref C)) : PySem.W.kitOne K (.ref C) (.type t) = some b ∧ ExcC K C := by
  unfold XTab.getT at e
  obtain ⟨z, hz, rfl⟩ := Option.map_eq_some_iff.mp e
  have hm := List.mem_of_find?_eq_some hz
  have hp := List.find?_some hz
  rw [Bool.and_eq_true, decide_eq_true_eq, decide_eq_true_eq] at hp
  obtain ⟨rfl, rfl⟩ := hp
  obtain ⟨C', h1, h3⟩ := h.blt z hm
  rw [hc] at h1
  cases h1
  exact h3
theorem clsV_of {F : Hp} {v : V} {d : D} (h : isCls d = true) (r : Dt K mg F v d) : ∃ u, ClsV v u := by
  cases r <;> first | exact (Bool.false_ne_true h).elim | skip
  · exact ⟨_, .ty _⟩
  · exact ⟨_, .own _⟩
theorem clsVs_of {F : Hp} : ∀ {vs : List V} {ds : List D}, ds.all isCls = true → Dts K mg F vs ds → ∃ us, Paired ClsV vs us
  | _, _, _, .nil => ⟨[], .nil⟩
  | _, _, h, .cons r rs => by
    rw [List.all_cons, Bool.and_eq_true] at h
    obtain ⟨u, hu⟩ := clsV_of h.1 r
    obtain ⟨us, hus⟩ := clsVs_of h.2 rs
    exact ⟨u :: us, .cons hu hus⟩
theorem XTabOk.any (h : XTabOk K mg T) (hc : mg c = some (.ref C)) {F : Hp} : ∀ (ds : List D) (vs : List V) (b : Bool), T.any c ds = some b → Dts K mg F vs ds → ∃ us, Paired ClsV vs us ∧ PySem.W.kitAny K (.ref C) us = some b
  | [], vs, b, e, r => by
    cases r
    cases e
    exact ⟨[], .nil, rfl⟩
  | d :: ds, vs, b, e, r => by
    cases r with
    | cons r rs =>
      rename_i v vs
      have key : ∀ (g : Option Bool) (u : Value), (match g with | some true => if ds.all isCls then some true else none | some false => T.any c ds | none => none) = some b → ClsV v u → (∀ b', g = some b' → PySem.W.kitOne K (.ref C) u = some b') → ∃ us, Paired ClsV (v :: vs) us ∧ PySem.W.kitAny K (.ref C) us = some b := fun g u e hu hk => by
        match g, e, hk with
        | some true, e, hk =>
          dsimp only at e
          split at e
          · rename_i ha
            cases e
            obtain ⟨us, hus⟩ := clsVs_of ha rs
            exact ⟨u :: us, .cons hu hus, by unfold PySem.W.kitAny; rw [hk true rfl]⟩
          · cases e
        | some false, e, hk =>
          obtain ⟨us, hus, hka⟩ := XTabOk.any h hc ds vs b e rs
          exact ⟨u :: us, .cons hu hus, by unfold PySem.W.kitAny; rw [hk false rfl]; exact hka⟩
        | none, e, hk => cases e
      cases d <;> first | cases e; done | skip
      · rename_i n
        cases r
        exact key (T.getT c n) _ e (.ty n) fun b' hb => (h.getT hb hc).1
      · rename_i x
        cases r
        rename_i a ha
        refine key (T.get c x) _ e (.own a) fun b' hb => ?_
        obtain ⟨Q, h1, h2, _⟩ := h.get hb hc
        rw [ha] at h1
        cases h1
        exact h2
end
/-- the exception's dict is in the store -/
def excHas (od : Option Addr) (μ : Sto) : Prop := match od with
  | none => True
  | some d => ∃ fs, μ d = some (.xd fs)
def rdIsX (a : Addr) (od : Option Addr) (c : Str) (T : XTab) : RDn
  | [.ref x, .gl q], μ, Q => x = a ∧ excHas od μ ∧ ∃ b, T.get c q = some b ∧ Q (.bl b) μ
  | [.ref x, .ty t], μ, Q => x = a ∧ excHas od μ ∧ ∃ b, T.getT c t = some b ∧ Q (.bl b) μ
  | [.ref x, .tup cs], μ, Q => x = a ∧ cs ≠ [] ∧ excHas od μ ∧ ∃ b, T.any c cs = some b ∧ Q (.bl b) μ
  | _, _, _ => False
@[simp] theorem rdIsX_1 {a x : Addr} {od : Option Addr} {c q : Str} {T : XTab} {μ : Sto} {Q : DK} : rdIsX a od c T [.ref x, .gl q] μ Q = (x = a ∧ excHas od μ ∧ ∃ b, T.get c q = some b ∧ Q (.bl b) μ) := rfl
@[simp] theorem rdIsX_2 {a x : Addr} {od : Option Addr} {c : Str} {t : String} {T : XTab} {μ : Sto} {Q : DK} : rdIsX a od c T [.ref x, .ty t] μ Q = (x = a ∧ excHas od μ ∧ ∃ b, T.getT c t = some b ∧ Q (.bl b) μ) := rfl
@[simp] theorem rdIsX_3 {a x : Addr} {od : Option Addr} {c : Str} {cs : List D} {T : XTab} {μ : Sto} {Q : DK} : rdIsX a od c T [.ref x, .tup cs] μ Q = (x = a ∧ cs ≠ [] ∧ excHas od μ ∧ ∃ b, T.any c cs = some b ∧ Q (.bl b) μ) := rfl
section
variable {X : Cx} {a C : Addr} {od : Option Addr} {oe : Obj} {pn : List (Addr × Obj)} {x f c : Str} {e : Expr} {d : TED} {p pos : Pos}
/-- e.f, e the exception that the suite holds -/
@[simp] def dXf (a : Addr) (od : Option Addr) (c cB f : Str) (d : TED) : TED := fun ρ μ Q => d ρ μ fun x μ1 => x = .ref a ∧ c = cB ∧ ∃ dd fs v, od = some dd ∧ μ1 dd = some (.xd fs) ∧ fs.lookup f = some v ∧ Q v μ1
end
end DL

namespace DL
open PySem PySem.Spec PyProof.Rows L2
section
variable {P : Program} {w : World} {K : PySem.W.Frag} {mg : Str → Option Value} {base : Heap} {k : Nat} {f : Addr} {ps : List Str} {S : DSp}
end
section
variable {K : PySem.W.Frag} {mg : Str → Option Value} {C Q : Addr} {b : Bool}
end
section
variable {X : Cx} {x : Str} {k : Nat} {e : Expr} {es : List Expr} {t : TAD} {p pos : Pos} {S : DSp}
end
end DL

namespace DL
open PySem PySem.Spec PyProof.Rows L2
/-- the own lists of the frame are there -/
def Old (ρ : DEnv) (σ : L2.St) (H : Hp) : Prop := ∀ (j : Nat) (xs : List D) (p : Addr), ρ[j]? = some (some (DS.own xs)) → σ[j]? = some (some (V.ref p)) → H p ≠ none
theorem Old.of {K : PySem.W.Frag} {mg : Str → Option Value} {B : Bs} {F H : Hp} {μ : Sto} {ρ : DEnv} {σ : L2.St} (R : RelB K mg B F ρ μ σ H) : Old ρ σ H := fun j xs p z1 z2 => by
  obtain ⟨p2, vs, c1, c2, c3, c4, _⟩ := R.ownAt z1
  rw [c1] at z2
  cases z2
  rw [c4]
  exact fun z => nomatch z
theorem Old.own {K : PySem.W.Frag} {mg : Str → Option Value} {B : Bs} {F F1 H H1 : Hp} {μ μ1 : Sto} {ρ : DEnv} {σ : L2.St} (R : RelB K mg B F ρ μ σ H) (e : Ext F μ H F1 μ1 H1) : Old ρ σ H1 := fun j xs p z1 z2 => by
  obtain ⟨p2, vs, c1, c2, c3, c4, _⟩ := R.ownAt z1
  rw [c1] at z2
  cases z2
  rw [(e.keep p _ c4 c3).1]
  exact fun z => nomatch z
theorem Old.set {K : PySem.W.Frag} {mg : Str → Option Value} {F H0 H H2 : Hp} {μ : Sto} {ρ : DEnv} {σ : L2.St} {i : Nat} {v : V} {s : DS} (h : Old ρ σ H2) (hl : ρ.length = σ.length) (w : ROk K mg H0 F μ H v s) (hk : ∀ p, H p ≠ none → H0 p = none → H2 p ≠ none) :
    Old (ρ.set i (some s)) (σ.set i (some v)) H2 := fun j xs p z1 z2 => by
  by_cases hj : i = j
  · subst hj
    have hi : i < ρ.length := by
      have := (List.getElem?_eq_some_iff.mp z1).1
      rwa [List.length_set] at this
    rw [List.getElem?_set_self hi] at z1
    cases z1
    obtain ⟨p2, vs, rfl, c1, c2, c3, c4, c5⟩ := w
    rw [List.getElem?_set_self (by rw [← hl]; exact hi)] at z2
    cases z2
    exact hk _ (by rw [c4]; exact fun z => nomatch z) c1
  · rw [List.getElem?_set_ne hj] at z1 z2
    exact h j xs p z1 z2
theorem Old.ext {F F' H H' : Hp} {μ μ' : Sto} {ρ : DEnv} {σ : L2.St} (h : Old ρ σ H) (e : Ext F μ H F' μ' H') : Old ρ σ H' := fun j xs p z1 z2 z => h j xs p z1 z2 (e.live p z)
theorem Old.put {K : PySem.W.Frag} {mg : Str → Option Value} {F H0 H F2 H2 : Hp} {μ μ2 : Sto} {ρ : DEnv} {σ : L2.St} {i : Nat} {v : V} {s : DS} (h : Old ρ σ H2) (hl : ρ.length = σ.length) (w : ROk K mg H0 F μ H v s) (e : Ext F μ H F2 μ2 H2) :
    Old (ρ.set i (some s)) (σ.set i (some v)) H2 := h.set hl w fun p hp _ z => hp (e.live p z)
/-- x, y, z = a, b, c: results -/
@[simp] def dParR (i j l : Nat) (a b c : TRD) : TSD := fun E ρ μ => a ρ μ fun s μ1 => b ρ μ1 fun t μ2 => c ρ μ2 fun u μ3 => E.nx (((ρ.set i (some s)).set j (some t)).set l (some u)) μ3
section
variable {X : Cx} {B : Bs} {i j l : Nat} {a b c : Expr} {da db dc : TRD} {pos : Pos} {kt k2 : Nat}
end
end DL

namespace DL
open PySem PySem.Spec PyProof.Rows L2
section
variable {X : Cx} {B : Bs} {i j : Nat} {a b : Expr} {da db : TRD} {pos : Pos} {kt k2 : Nat}
end
end DL

namespace DL
open PySem PySem.Spec PyProof.Rows L2
def keyPy : Key → PyData
  | .inl i => .int i
  | .inr s => .str s
mutual
/-- data at a value, dicts with them -/
inductive Dq (K : PySem.W.Frag) (H : Hp) : V → PyData → Prop
  | non : Dq K H .non .none
  | bl (b : Bool) : Dq K H (.bl b) (.bool b)
  | int (i : Int) : Dq K H (.int i) (.int i)
  | str (x : Str) : Dq K H (.str x) (.str x)
  | lst {a : Addr} {xs : List V} {ds : List PyData} : SqL K H a xs → DqAll K H xs ds → Dq K H (.ref a) (.list ds)
  | tup {a : Addr} {xs : List V} {ds : List PyData} : SqT K H a xs → DqAll K H xs ds → Dq K H (.ref a) (.tuple ds)
  | dct {a : Addr} {kvs : List (Key × V)} {ds : List (PyData × PyData)} : H a = some (.dK kvs) → DqKv K H kvs ds → Dq K H (.ref a) (.dict ds)
inductive DqAll (K : PySem.W.Frag) (H : Hp) : List V → List PyData → Prop
  | nil : DqAll K H [] []
  | cons {v : V} {vs : List V} {d : PyData} {ds : List PyData} : Dq K H v d → DqAll K H vs ds → DqAll K H (v :: vs) (d :: ds)
inductive DqKv (K : PySem.W.Frag) (H : Hp) : List (Key × V) → List (PyData × PyData) → Prop
  | nil : DqKv K H [] []
  | cons {k : Key} {v : V} {kvs : List (Key × V)} {d : PyData} {ds : List (PyData × PyData)} : Dq K H v d → DqKv K H kvs ds → DqKv K H ((k, v) :: kvs) ((keyPy k, d) :: ds)
end
section
variable {X : Cx} {pins : List (Addr × Obj)} {σ : L2.St} {H : Hp} {s : Shared}
theorem keys_read {P : Program} {w : World} {h : Heap} : ∀ {es : List DictEntry} {kvs : List (Key × Value)}, Pairs (mixKind P w) es kvs → ReadsAll h (es.map (·.key)) (kvs.map fun kv => keyPy kv.1) []
  | _, _, .nil => .nil
  | _, _, .cons (e := e) (kv := kv) h1 _ r => by
    have ih := keys_read (h := h) r
    have one : Reads h e.key (keyPy kv.1) [] := by
      obtain ⟨k, v⟩ := kv
      rcases keyIs_shape h1 with ⟨i, t, e1, e2⟩ | ⟨x, t, e1, e2⟩
      · dsimp only at e1
        subst e1
        rw [e2]
        exact .int i t
      · dsimp only at e1
        subst e1
        rw [e2]
        exact .str x t
    exact .cons (as := []) (bs := []) one ih
theorem vals_are {P : Program} {w : World} : ∀ {es : List DictEntry} {kvs : List (Key × Value)}, Pairs (mixKind P w) es kvs → es.map (·.val) = kvs.map (·.2)
  | _, _, .nil => rfl
  | _, _, .cons _ h2 r => by rw [List.map_cons, List.map_cons, h2, vals_are r]
/-- what is read of a value, and how it is shown -/
def RP (P : Program) (w : World) (h : Heap) (v : Value) (d : PyData) : Prop := ∃ as bs, Reads h v d as ∧ ReadAtMost h d.depth bs ∧ ReprK P w bs h d.depth v d.shown
def RPA (P : Program) (w : World) (h : Heap) (vs : List Value) (ds : List PyData) : Prop := ∃ as bs, ReadsAll h vs ds as ∧ ReadAtMost h (PyData.depthAll ds) bs ∧ ReprAllK P w bs h (PyData.depthAll ds) vs (PyData.shownAll ds)
theorem rp_flat {P : Program} {w : World} {h : Heap} {v : Value} {d : PyData} (r : Reads h v d []) (hs : d.showable = true) (hz : d.shown.length ≤ sizeLine) : RP P w h v d := by
  obtain ⟨bs, h1, h2⟩ := ReprK.of_reads (prog := P) (w := w) r hs (fun _ z => nomatch z) hz
  exact ⟨[], bs, r, h1, h2⟩
theorem rpa_nil {P : Program} {w : World} {h : Heap} : RPA P w h [] [] := ⟨[], [], .nil, (fun _ z => nomatch z), .nil⟩
theorem rpa_cons {P : Program} {w : World} {h : Heap} {v : Value} {vs : List Value} {d : PyData} {ds : List PyData} (r : RP P w h v d) (rs : RPA P w h vs ds) : RPA P w h (v :: vs) (d :: ds) := by
  obtain ⟨as, b1, q1, m1, k1⟩ := r
  obtain ⟨cs, b2, q2, m2, k2⟩ := rs
  have l1 : d.depth ≤ PyData.depthAll (d :: ds) := Nat.le_max_left _ _
  have l2 : PyData.depthAll ds ≤ PyData.depthAll (d :: ds) := Nat.le_max_right _ _
  exact ⟨as ++ cs, b1 ++ b2, .cons q1 q2, (m1.mono l1).append (m2.mono l2), .cons ((k1.more fun b z => List.mem_append_left _ z).level_le l1) (k2.more_le (fun b z => List.mem_append_right _ z) l2)⟩
theorem deeper {h : Heap} {a : Addr} {d : PyData} {as bs : List Addr} {n : Nat} (r : Reads h (.ref a) d as) (hn : n < d.depth) (m : ReadAtMost h n bs) : a ∉ bs := not_mem_of_deeper r hn m
theorem rp_list {P : Program} {w : World} {h : Heap} {a : Addr} {o : Obj} {vs : Array Value} {n : Nat} {ds : List PyData} (h1 : h.get? a = some o) (h2 : o.cls = .type "list") (h3 : o.data = .seq vs n) (rs : RPA P w h vs.toList ds) : RP P w h (.ref a) (.list ds) := by
  obtain ⟨as, bs, q, m, k⟩ := rs
  have r : Reads h (.ref a) (.list ds) (a :: as) := Reads.list h1 h2 h3 q
  have lt : PyData.depthAll ds < (PyData.list ds).depth := by show _ < PyData.depthAll ds + 1; omega
  have hna := deeper r lt m
  refine ⟨_, a :: bs, r, ReadAtMost.cons r (Nat.le_refl _) (m.mono (Nat.le_of_lt lt)), ?_⟩
  show ReprK P w (a :: bs) h (PyData.depthAll ds + 1) (.ref a) (listText (PyData.shownAll ds))
  obtain ⟨l⟩ := vs
  cases l with
  | nil =>
    cases (show ReadsAll h [] ds as from q)
    show ReprK P w (a :: bs) h _ (.ref a) (listText [])
    rw [listText_nil]; exact ReprK.listEmpty h1 h2 h3
  | cons x l => exact ReprK.list h1 h2 h3 hna (by simpa using k.length_eq) fun i y e => k.item i y (by simpa using e)
theorem rp_tuple {P : Program} {w : World} {h : Heap} {a : Addr} {o : Obj} {vs : Array Value} {n : Nat} {ds : List PyData} (h1 : h.get? a = some o) (h2 : o.cls = .type "tuple") (h3 : o.data = .seq vs n) (rs : RPA P w h vs.toList ds) : RP P w h (.ref a) (.tuple ds) := by
  obtain ⟨as, bs, q, m, k⟩ := rs
  have r : Reads h (.ref a) (.tuple ds) as := Reads.tuple h1 h2 h3 q
  have lt : PyData.depthAll ds < (PyData.tuple ds).depth := by show _ < PyData.depthAll ds + 1; omega
  have hna := deeper r lt m
  exact ⟨_, a :: bs, r, ReadAtMost.cons r (Nat.le_refl _) (m.mono (Nat.le_of_lt lt)), ReprK.tuple h1 h2 h3 hna k⟩
theorem rp_dict {P : Program} {w : World} {h : Heap} {a : Addr} {o : Obj} {es : Array DictEntry} {n : Nat} {kvs : List (PyData × PyData)} (h1 : h.get? a = some o) (h2 : o.cls = .type "dict") (h3 : o.data = .dict es n) (hn : (a == sysModules) = false)
    (rk : RPA P w h (es.toList.map (·.key)) (kvs.map (·.1))) (rv : RPA P w h (es.toList.map (·.val)) (kvs.map (·.2))) : RP P w h (.ref a) (.dict kvs) := by
  obtain ⟨as, b1, q1, m1, k1⟩ := rk
  obtain ⟨cs, b2, q2, m2, k2⟩ := rv
  have r : Reads h (.ref a) (.dict kvs) (a :: as ++ cs) := Reads.dict h1 h2 h3 q1 q2
  have lt : PyData.depthKv kvs < (PyData.dict kvs).depth := by show _ < PyData.depthKv kvs + 1; omega
  have m := (m1.mono (PyData.depthAll_keys_le kvs)).append (m2.mono (PyData.depthAll_vals_le kvs))
  have hna := deeper r lt m
  refine ⟨_, a :: (b1 ++ b2), r, ReadAtMost.cons r (Nat.le_refl _) (m.mono (Nat.le_of_lt lt)), ?_⟩
  show ReprK P w (a :: (b1 ++ b2)) h (PyData.depthKv kvs + 1) (.ref a) (dictText (PyData.shownKv kvs))
  rw [PyData.shownKv_eq]
  exact ReprK.dict h1 h2 h3 hn hna (ReprEntriesK.of_two es.toList _ _ (k1.more_le (fun b z => List.mem_append_left _ z) (PyData.depthAll_keys_le kvs)) (k2.more_le (fun b z => List.mem_append_right _ z) (PyData.depthAll_vals_le kvs)))
/-- texts of texts are small -/
def Fits (d : PyData) : Prop := d.showable = true ∧ d.shown.length ≤ sizeLine
def FitsAll (ds : List PyData) : Prop := PyData.showableAll ds = true ∧ ∀ t ∈ PyData.shownAll ds, t.length ≤ sizeLine
theorem Fits.list {ds : List PyData} (h : Fits (.list ds)) : FitsAll ds := ⟨h.1, fun t ht => Nat.le_trans (listText_mem_le ht) h.2⟩
theorem Fits.tuple {ds : List PyData} (h : Fits (.tuple ds)) : FitsAll ds := ⟨h.1, fun t ht => Nat.le_trans (tupleText_mem_le ht) h.2⟩
theorem FitsAll.head {d : PyData} {ds : List PyData} (h : FitsAll (d :: ds)) : Fits d := ⟨(Bool.and_eq_true_iff.mp h.1).1, h.2 _ (List.mem_cons_self ..)⟩
theorem FitsAll.tail {d : PyData} {ds : List PyData} (h : FitsAll (d :: ds)) : FitsAll ds := ⟨(Bool.and_eq_true_iff.mp h.1).2, fun t ht => h.2 t (List.mem_cons_of_mem _ ht)⟩
theorem Fits.dict {kvs : List (PyData × PyData)} (h : Fits (.dict kvs)) : FitsAll (kvs.map (·.1)) ∧ FitsAll (kvs.map (·.2)) := by
  obtain ⟨a, b⟩ := PyData.showableKv_split kvs h.1
  refine ⟨⟨a, fun t ht => ?_⟩, b, fun t ht => ?_⟩
  · obtain ⟨p, hp, hl⟩ := PyData.shownKv_key_le kvs t ht
    exact Nat.le_trans hl (Nat.le_trans (dictText_mem_le hp) h.2)
  · obtain ⟨p, hp, hl⟩ := PyData.shownKv_val_le kvs t ht
    exact Nat.le_trans hl (Nat.le_trans (dictText_mem_le hp) h.2)
theorem rpa_keys {P : Program} {w : World} {h : Heap} : ∀ {ks : List Value} {ds : List PyData}, ReadsAll h ks ds [] → FitsAll ds → RPA P w h ks ds := fun {ks ds} r f => by
  obtain ⟨bs, h1, h2⟩ := ReprAllK.of_readsAll (prog := P) (w := w) r f.1 (fun _ z => nomatch z) f.2
  exact ⟨[], bs, r, h1, h2⟩
mutual
theorem Dq.rp (I : Inv X pins σ H s) : ∀ (d : PyData) (v : V) (u : Value), Dq X.K H v d → RelV v u → Fits d → RP X.prog X.w s.heap u d
  | .none, _, _, h, r, f => by
    cases h
    cases r
    exact rp_flat .none f.1 f.2
  | .bool b, _, _, h, r, f => by
    cases h
    cases r
    exact rp_flat (.bool b) f.1 f.2
  | .int i, _, _, h, r, f => by
    cases h
    obtain ⟨t, rfl⟩ := r
    exact rp_flat (.int i t) f.1 f.2
  | .str x, _, _, h, r, f => by
    cases h
    obtain ⟨t, rfl⟩ := r
    exact rp_flat (.str x t) f.1 f.2
  | .list ds, _, _, h, r, f => by
    cases h with
    | lst hs ha =>
      cases r
      obtain ⟨its, rv, ⟨o, n, ho, hc, _, hd⟩, _⟩ := I.list hs
      exact rp_list ho hc hd (by simpa using Dq.rpa I ds _ its ha rv f.list)
  | .tuple ds, _, _, h, r, f => by
    cases h with
    | tup hs ha =>
      cases r
      obtain ⟨its, rv, ⟨o, ho, hc, n, hd⟩, _⟩ := I.tuple hs
      exact rp_tuple ho hc hd (by simpa using Dq.rpa I ds _ its ha rv f.tuple)
  | .dict ds, _, _, h, r, f => by
    cases h with
    | dct he ha =>
      cases r
      obtain ⟨_, hns, vs, kv, o, es, ep, ho, hx, hd, hk, hp, _⟩ := dk_of I.hok he
      obtain ⟨ek, rv⟩ := Dq.rpv I ds _ vs ha kv f.dict.2
      have r1 := keys_read (h := s.heap) hp
      rw [ek] at r1
      exact rp_dict ho hx.1 hd hns (rpa_keys r1 f.dict.1) (by rw [vals_are hp]; exact rv)
theorem Dq.rpa (I : Inv X pins σ H s) : ∀ (ds : List PyData) (vs : List V) (us : List Value), DqAll X.K H vs ds → Vals vs us → FitsAll ds → RPA X.prog X.w s.heap us ds
  | [], _, _, h, r, f => by
    cases h
    cases r
    exact rpa_nil
  | d :: ds, _, _, h, r, f => by
    cases h with
    | cons h1 h2 =>
      cases r with
      | cons r1 r2 => exact rpa_cons (Dq.rp I d _ _ h1 r1 f.head) (Dq.rpa I ds _ _ h2 r2 f.tail)
theorem Dq.rpv (I : Inv X pins σ H s) : ∀ (ds : List (PyData × PyData)) (kvs : List (Key × V)) (vs : List (Key × Value)), DqKv X.K H kvs ds → KV kvs vs → FitsAll (ds.map (·.2)) → (vs.map fun kv => keyPy kv.1) = ds.map (·.1) ∧ RPA X.prog X.w s.heap (vs.map (·.2)) (ds.map (·.2))
  | [], _, _, h, r, f => by
    cases h
    cases r
    exact ⟨rfl, rpa_nil⟩
  | d :: ds, _, _, h, r, f => by
    cases h with
    | cons h1 h2 =>
      cases r with
      | cons r1 r2 =>
        obtain ⟨e2, q2⟩ := Dq.rpv I ds _ _ h2 r2 f.tail
        refine ⟨?_, rpa_cons (Dq.rp I _ _ _ h1 r1.2 f.head) q2⟩
        rw [List.map_cons, List.map_cons, e2, ← r1.1]
end
end
theorem shows_list {P : Program} {w : World} {h : Heap} {a : Addr} {o : Obj} {vs : Array Value} {n : Nat} {ds : List PyData} (h1 : h.get? a = some o) (h2 : o.cls = .type "list") (h3 : o.data = .seq vs n) (rs : RPA P w h vs.toList ds) (f : Fits (.list ds)) : ShowsBy P w h a (.list ds) "list" "list.__repr__" := by
  obtain ⟨as, bs, q, m, k⟩ := rs
  have lt : PyData.depthAll ds < (PyData.list ds).depth := by show _ < PyData.depthAll ds + 1; omega
  have hna := deeper (Reads.list h1 h2 h3 q) lt m
  refine ⟨F.slot_list_repr.toG, F.slot_list_str, F.slot_list_format, fun s hk => ⟨o, hk _ _ h1, h2⟩, fun A E s Q hg hu hk hQ => ?_⟩
  have hu' : A.units + (PyData.depthAll ds + 1) < cLine := hu
  obtain ⟨l⟩ := vs
  cases l with
  | nil =>
    cases (show ReadsAll h [] ds as from q)
    refine call_list_repr_empty ⟨o, hk _ _ h1, h2⟩ (hk _ _ h1) h3 ?_
    have := hQ s.heap
    rw [show (PyData.list []).shown = "[]" from listText_nil] at this
    exact this _ _ fun _ _ e => e
  | cons x l => exact call_list_reprK h1 h2 h3 hna (by simpa using k.length_eq) (fun i y e => k.item i y (by simpa using e)) hg (fun b _ => Clear.nil b) hu' hk hQ f.2
theorem shows_tuple {P : Program} {w : World} {h : Heap} {a : Addr} {o : Obj} {vs : Array Value} {n : Nat} {ds : List PyData} (h1 : h.get? a = some o) (h2 : o.cls = .type "tuple") (h3 : o.data = .seq vs n) (rs : RPA P w h vs.toList ds) (f : Fits (.tuple ds)) : ShowsBy P w h a (.tuple ds) "tuple" "tuple.__repr__" := by
  obtain ⟨as, bs, q, m, k⟩ := rs
  have lt : PyData.depthAll ds < (PyData.tuple ds).depth := by show _ < PyData.depthAll ds + 1; omega
  have hna := deeper (Reads.tuple h1 h2 h3 q) lt m
  exact ⟨F.slot_tuple_repr, F.slot_tuple_str, F.slot_tuple_format, fun s hk => ⟨o, hk _ _ h1, h2⟩, fun A E s Q hg hu hk hQ => call_tuple_reprK h1 h2 h3 hna k hg (fun b _ => Clear.nil b) (show A.units + (PyData.depthAll ds + 1) < cLine from hu) hk hQ f.2⟩
theorem shows_dict {P : Program} {w : World} {h : Heap} {a : Addr} {o : Obj} {es : Array DictEntry} {n : Nat} {kvs : List (PyData × PyData)} (h1 : h.get? a = some o) (h2 : o.cls = .type "dict") (h3 : o.data = .dict es n) (hn : (a == sysModules) = false)
    (rk : RPA P w h (es.toList.map (·.key)) (kvs.map (·.1))) (rv : RPA P w h (es.toList.map (·.val)) (kvs.map (·.2))) (f : Fits (.dict kvs)) : ShowsBy P w h a (.dict kvs) "dict" "dict.__repr__" := by
  obtain ⟨as, b1, q1, m1, k1⟩ := rk
  obtain ⟨cs, b2, q2, m2, k2⟩ := rv
  have lt : PyData.depthKv kvs < (PyData.dict kvs).depth := by show _ < PyData.depthKv kvs + 1; omega
  have hna := deeper (Reads.dict h1 h2 h3 q1 q2) lt ((m1.mono (PyData.depthAll_keys_le kvs)).append (m2.mono (PyData.depthAll_vals_le kvs)))
  refine ⟨F.slot_dict_repr, F.slot_dict_str, F.slot_dict_format, fun s hk => ⟨o, hk _ _ h1, h2⟩, fun A E s Q hg hu hk hQ => ?_⟩
  have hQ' : ∀ h' u tk, (∀ b o, s.heap.get? b = some o → h'.get? b = some o) → Q (.str (dictText (PyData.shownKv kvs)) u) { s with heap := h', toks := tk } := hQ
  have fz : (dictText (PyData.shownKv kvs)).length ≤ sizeLine := f.2
  rw [PyData.shownKv_eq] at hQ' fz
  exact call_dict_reprK h1 h2 h3 hn hna (ReprEntriesK.of_two es.toList _ _ (k1.more_le (fun b z => List.mem_append_left _ z) (PyData.depthAll_keys_le kvs)) (k2.more_le (fun b z => List.mem_append_right _ z) (PyData.depthAll_vals_le kvs))) hg (fun b _ => Clear.nil b) (show A.units + (PyData.depthKv kvs + 1) < cLine from hu) hk hQ' fz
section
variable {X : Cx} {pins : List (Addr × Obj)} {σ : L2.St} {H : Hp} {s : Shared}
theorem Dq.shows (I : Inv X pins σ H s) {d : PyData} {a : Addr} (h : Dq X.K H (.ref a) d) (f : Fits d) : ∃ T idr, ShowsBy X.prog X.w s.heap a d T idr := by
  cases h with
  | lst hs ha =>
    obtain ⟨its, rv, ⟨o, n, ho, hc, _, hd⟩, _⟩ := I.list hs
    exact ⟨_, _, shows_list ho hc hd (by simpa using Dq.rpa I _ _ its ha rv f.list) f⟩
  | tup hs ha =>
    obtain ⟨its, rv, ⟨o, ho, hc, n, hd⟩, _⟩ := I.tuple hs
    exact ⟨_, _, shows_tuple ho hc hd (by simpa using Dq.rpa I _ _ its ha rv f.tuple) f⟩
  | dct he ha =>
    obtain ⟨_, hns, vs, kv, o, es, ep, ho, hx, hd, hk, hp, _⟩ := dk_of I.hok he
    obtain ⟨ek, rv⟩ := Dq.rpv I _ _ vs ha kv f.dict.2
    have r1 := keys_read (h := s.heap) hp
    rw [ek] at r1
    exact ⟨_, _, shows_dict ho hx.1 hd hns (rpa_keys r1 f.dict.1) (by rw [vals_are hp]; exact rv) f⟩
end
mutual
def D.pyO : D → PyData
  | .non => .none
  | .bl b => .bool b
  | .int i => .int i
  | .str x => .str (S x)
  | .tup xs => .tuple (D.pysO xs)
  | .lst xs => .list (D.pysO xs)
  | .dct kvs => .dict (D.kvsO kvs)
  | _ => .none
def D.pysO : List D → List PyData
  | [] => []
  | x :: xs => x.pyO :: D.pysO xs
def D.kvsO : List (Key × D) → List (PyData × PyData)
  | [] => []
  | (k, v) :: r => (keyPy k, v.pyO) :: D.kvsO r
end
mutual
/-- plain data, dicts with them -/
def D.plain : D → Bool
  | .non => true
  | .bl _ => true
  | .int _ => true
  | .str _ => true
  | .tup xs => D.plains xs
  | .lst xs => D.plains xs
  | .dct kvs => D.plainKv kvs
  | _ => false
def D.plains : List D → Bool
  | [] => true
  | x :: xs => x.plain && D.plains xs
def D.plainKv : List (Key × D) → Bool
  | [] => true
  | (_, v) :: r => v.plain && D.plainKv r
end
section
variable {K : PySem.W.Frag} {mg : Str → Option Value} {F H : Hp} {μ : Sto}
end
/-- the text of repr -/
def D.repO (d : D) : List Nat := d.pyO.shown.cps.toList
def repOkB (d : D) : Bool := d.plain && d.pyO.showable && decide (d.pyO.depth ≤ 50) && decide (d.repO.length ≤ SZ)
def repOkO (d : D) : Prop := repOkB d = true
def rdReprO : RDn
  | [d], μ, Q => repOkO d ∧ Q (.str d.repO) μ
  | _, _, _ => False
@[simp] theorem rdReprO_1 {d : D} {μ : Sto} {Q : DK} : rdReprO [d] μ Q = (repOkO d ∧ Q (.str d.repO) μ) := rfl
section
variable {X : Cx} {pos : Pos}
end
end DL

namespace DL
open PySem PySem.Spec PyProof.Rows L2
mutual
/-- like ic, with small integers -/
def D.sm : D → Prop
  | .non => True
  | .bl _ => True
  | .int i => i.natAbs < 2 ^ 60
  | .str s => ∀ c ∈ s, c < 1114112
  | .tup xs => D.sms xs
  | .lst xs => D.sms xs
  | .dct _ => False | .scr _ => False | .ref _ => False | .ty _ => False | .gl _ => False | .pr _ _ => False | .obj _ _ => False | .exn _ _ => False
def D.sms : List D → Prop
  | [] => True
  | x :: xs => x.sm ∧ D.sms xs
end
mutual
def D.wS : D → Nat
  | .int _ => 60
  | .str s => s.length
  | .tup xs => D.wSs xs
  | .lst xs => D.wSs xs
  | .non => 0 | .bl _ => 0 | .dct _ => 0 | .scr _ => 0 | .ref _ => 0 | .ty _ => 0 | .gl _ => 0 | .pr _ _ => 0 | .obj _ _ => 0 | .exn _ _ => 0
def D.wSs : List D → Nat
  | [] => 0
  | x :: xs => x.wS + 1 + D.wSs xs
end
mutual
theorem D.sm_all : ∀ d : D, d.sm → d.ic ∧ d.py.intsShort 62 = true ∧ d.py.weight ≤ d.wS
  | .non, _ => ⟨trivial, rfl, Nat.le_refl _⟩
  | .bl _, _ => ⟨trivial, rfl, Nat.le_refl _⟩
  | .int i, h => by
    have hl := log_lt (k := 60) (by decide) h
    refine ⟨Nat.lt_trans h (by decide), ?_, ?_⟩
    · show decide _ = true
      simp only [decide_eq_true_eq]
      have := int_text_length_le (a := i) (k := 60) (by decide) hl
      have e : (PyData.shown (.int i)).length = (toString i).length := by
        show (Str.ofString (toString i)).length = _
        rw [PySem.ofString_length]
      rw [e]
      omega
    · show (if i == 0 then 0 else _) ≤ 60
      split <;> omega
  | .str s, h => by
    refine ⟨h, rfl, ?_⟩
    show s.toArray.size ≤ s.length
    simp
  | .tup xs, h => D.sms_all xs h
  | .lst xs, h => D.sms_all xs h
  | .dct _, h => h.elim
  | .scr _, h => h.elim
  | .ref _, h => h.elim
  | .ty _, h => h.elim
  | .gl _, h => h.elim
  | .pr _ _, h => h.elim
  | .obj _ _, h => h.elim
  | .exn _ _, h => h.elim
theorem D.sms_all : ∀ ds : List D, D.sms ds → D.ics ds ∧ PyData.intsShortAll 62 (D.pys ds) = true ∧ PyData.weightAll (D.pys ds) ≤ D.wSs ds
  | [], _ => ⟨trivial, rfl, Nat.le_refl _⟩
  | x :: xs, h => by
    obtain ⟨a, c, e⟩ := D.sm_all x h.1
    obtain ⟨a', c', e'⟩ := D.sms_all xs h.2
    refine ⟨⟨a, a'⟩, ?_, ?_⟩
    · show (x.py.intsShort 62 && PyData.intsShortAll 62 (D.pys xs)) = true
      rw [c, c']; rfl
    · show x.py.weight + 1 + PyData.weightAll (D.pys xs) ≤ x.wS + 1 + D.wSs xs
      omega
end
theorem repOkS {d : D} (h : d.sm) (hw : d.wS ≤ 250000) (hd : d.dp ≤ 50) : repOk d := by
  obtain ⟨i, c2, e2⟩ := D.sm_all d h
  obtain ⟨a, b, c, e, f⟩ := D.ic_all d i
  refine ⟨a, by omega, ?_⟩
  have h2 := PyData.shown_le 62 (by decide) d.py (PyData.leavesShort_of_canLay0 62 d.py b c2)
  show d.py.shown.cps.toList.length ≤ SZ
  have e3 : d.py.shown.cps.toList.length = d.py.shown.length := by simp [Str.length]
  rw [e3]
  simp only [SZ]
  omega
theorem sms_iff : ∀ xs : List D, D.sms xs ↔ ∀ x ∈ xs, x.sm
  | [] => by simp [D.sms]
  | x :: xs => by simp [D.sms, sms_iff xs]
theorem wSs_le {w : Nat} : ∀ xs : List D, (∀ x ∈ xs, x.wS ≤ w) → D.wSs xs ≤ xs.length * (w + 1)
  | [], _ => by simp [D.wSs]
  | x :: xs, h => by
    have h1 := h x (by simp)
    have h2 := wSs_le xs fun y hy => h y (by simp [hy])
    simp [D.wSs, Nat.add_mul]
    omega
/-- data that may be written out, of weight at most w and depth at most k -/
structure Shw (w k : Nat) (d : D) : Prop where
  sm : d.sm
  wt : d.wS ≤ w
  dp : d.dp ≤ k
theorem Shw.rep {w k : Nat} {d : D} (h : Shw w k d) (hw : w ≤ 250000) (hk : k ≤ 50) : repOk d := repOkS h.sm (Nat.le_trans h.wt hw) (Nat.le_trans h.dp hk)
theorem Shw.mono {w k w' k' : Nat} {d : D} (h : Shw w k d) (hw : w ≤ w') (hk : k ≤ k') : Shw w' k' d := ⟨h.sm, Nat.le_trans h.wt hw, Nat.le_trans h.dp hk⟩
theorem shw_int {i : Int} (h : i.natAbs < 2 ^ 60) : Shw 60 0 (.int i) := ⟨h, Nat.le_refl _, Nat.le_refl _⟩
theorem shw_nat {i : Nat} (h : i < 1152921504606846976) : Shw 60 0 (.int i) := shw_int (by rw [show (2 : Nat) ^ 60 = 1152921504606846976 from rfl]; omega)
theorem shws {w k n : Nat} {xs : List D} (h : ∀ x ∈ xs, Shw w k x) (hl : xs.length ≤ n) : D.sms xs ∧ D.wSs xs ≤ n * (w + 1) ∧ D.dps xs ≤ k :=
  ⟨(sms_iff _).mpr fun x hx => (h x hx).sm, Nat.le_trans (wSs_le xs fun x hx => (h x hx).wt) (Nat.mul_le_mul_right _ hl), dps_le _ fun x hx => (h x hx).dp⟩
theorem shw_tup {w k n : Nat} {xs : List D} (h : ∀ x ∈ xs, Shw w k x) (hl : xs.length ≤ n) : Shw (n * (w + 1)) (k + 1) (.tup xs) := by
  obtain ⟨a, b, c⟩ := shws h hl
  exact ⟨a, b, Nat.succ_le_succ c⟩
theorem shw_lst {w k n : Nat} {xs : List D} (h : ∀ x ∈ xs, Shw w k x) (hl : xs.length ≤ n) : Shw (n * (w + 1)) (k + 1) (.lst xs) := by
  obtain ⟨a, b, c⟩ := shws h hl
  exact ⟨a, b, Nat.succ_le_succ c⟩
theorem shw_nats {l : List Nat} {n : Nat} (h : ∀ x ∈ l, x < 1152921504606846976) (hl : l.length ≤ n) : ∀ x ∈ nats l, Shw 60 0 x := fun x hx => by
  obtain ⟨y, hy, rfl⟩ := List.mem_map.mp hx
  exact shw_nat (h y hy)
end DL

namespace DL
open PySem PySem.Spec PyProof.Rows L2
structure Shx (t k : Nat) (d : D) : Prop where
  pl : d.plain = true
  sh : d.pyO.showable = true
  dp : d.pyO.depth ≤ k
  ln : d.pyO.shown.length ≤ t
theorem Shx.mono {t k t' k' : Nat} {d : D} (h : Shx t k d) (ht : t ≤ t') (hk : k ≤ k') : Shx t' k' d := ⟨h.pl, h.sh, Nat.le_trans h.dp hk, Nat.le_trans h.ln ht⟩
theorem Shx.rep {t k : Nat} {d : D} (h : Shx t k d) (ht : t ≤ 16777216) (hk : k ≤ 50) : repOkO d := by
  obtain ⟨a, b, c, e⟩ := h
  unfold repOkO repOkB D.repO
  have e3 : d.pyO.shown.cps.toList.length = d.pyO.shown.length := by simp [Str.length]
  simp only [Bool.and_eq_true, decide_eq_true_eq]
  rw [e3]
  exact ⟨⟨⟨a, b⟩, by omega⟩, by show _ ≤ 16777216; omega⟩
end DL

namespace DL
open PySem PySem.Spec PyProof.Rows L2
section
variable {prog : Program} {w : World} {A : Around} {E : Value → Shared → Prop} {s : Shared}
end
section
variable {X : Cx} {e : Expr} {d : TED} {p pos : Pos}
@[simp] def dRevT (d : TED) : TED := fun ρ μ Q => d ρ μ fun x μ1 => match x with
  | .tup xs => Q (.tup xs.reverse) μ1
  | _ => False
def rdListS : RDn
  | [.str s], μ, Q => s.length ≤ SZ ∧ Q (.lst (strD s)) μ
  | _, _, _ => False
@[simp] theorem rdListS_1 {s : List Nat} {μ : Sto} {Q : DK} : rdListS [.str s] μ Q = (s.length ≤ SZ ∧ Q (.lst (strD s)) μ) := rfl
theorem dts_rng {K : PySem.W.Frag} {mg : Str → Option Value} {F : Hp} (i : Int) : ∀ n : Nat, Dts K mg F ((List.range n).map fun j => V.int (i + (j : Nat))) (rngD i n) := fun n => by
  unfold rngD
  induction n with
  | zero => exact .nil
  | succ n ih =>
    rw [List.range_succ, List.map_append, List.map_append]
    exact ih.append (.cons (.int _) .nil)
def lrOk (i j : Int) : Prop := 0 ≤ i ∧ i ≤ 16777216 ∧ 0 ≤ j ∧ j ≤ 16777216
@[simp] def dLRngF (d : TED) : TFD := fun ρ μ Q => d ρ μ fun x μ1 => match x with
  | .int j => lrOk 0 j ∧ Q (rngD 0 j.toNat) μ1
  | _ => False
@[simp] def dTRng (d : TED) : TED := fun ρ μ Q => d ρ μ fun x μ1 => match x with
  | .int j => lrOk 0 j ∧ Q (.tup (rngD 0 j.toNat)) μ1
  | _ => False
def tTupRgZ (te : L2.St → Hp → (Int → Int → Hp → Prop) → Prop) : TE := fun σ H Q => te σ H fun a b H1 => RgOk a b ∧ newT H1 Q (rgV a b)
theorem pe_tupRgZ {te : L2.St → Hp → (Int → Int → Hp → Prop) → Prop} (hc : X.calm = true) (hg : Gl X "tuple") (hm : X.mg "tuple" = none) (he : PRg X e te) (na : starEach [e] X.env = (false, eval e X.env) :: starEach [] X.env := by rfl) : PE X (.Call (.Name "tuple" p) [e] [] pos) (tTupRgZ te) := by
  refine ⟨fun pins s σ H Q I h => ?_⟩
  refine Call_ (ld_blt I hg hm boot_tuple (PyProof.Rows.callWith_type1 (args_cons (thn (he pins s σ H _ I h) fun x s1 ⟨r, a, b, t, u, v, H1, ex, hr, I1, ok, q⟩ => args_nil ?_) na) na))
  subst ex
  obtain ⟨b1, b2, b3, b4, b5⟩ := ok
  refine call_tuple_range (n := (b - a).toNat) (I1.ok.hd hc) hr (small_one b1 b2 b3 b4) (rangeSize_nat a b) b5 fun h' tk acc hk hi => ?_
  have I2 : Inv X pins σ H1 { s1 with heap := h', toks := tk } := I1.kept hk
  have := fin_tup (its := acc.toList) I2 (by rw [rgV_length, sizeLine_eq]; omega) (vals_rg hi) q
  rw [Array.toArray_toList] at this
  exact this
theorem de_trng {p2 q2 : Pos} (hc : X.calm = true) (hg : Gl X "tuple") (hm : X.mg "tuple" = none) (hg2 : Gl X "range") (hm2 : X.mg "range" = none) (he : DW X e d)
    (na : starEach [e] X.env = (false, eval e X.env) :: starEach [] X.env := by rfl) (nb : starEach [.Call (.Name "range" p2) [e] [] q2] X.env = (false, eval (.Call (.Name "range" p2) [e] [] q2) X.env) :: starEach [] X.env := by rfl) :
    DE X (.Call (.Name "tuple" p) [.Call (.Name "range" p2) [e] [] q2] [] pos) (dTRng d) := (pe_tupRgZ hc hg hm (prg_1 hg2 hm2 he na) nb).weaken fun σ H Q q => by
  obtain ⟨F, ρ, μ, Qd, R, hd, k⟩ := q
  refine ⟨F, ρ, μ, _, R, hd, fun v F1 μ1 H1 dv e1 o1 w1 q1 => ?_⟩
  cases dv <;> first | exact q1.elim | skip
  rename_i j
  obtain ⟨⟨_, _, h3, h4⟩, q1⟩ := q1
  refine ⟨j, w1.int, RgOk.of_le (by omega) (by omega) (by omega) (by omega), fun p ob hp hob => ?_⟩
  have r := dts_rng (K := X.K) (mg := X.mg) (F := F1) 0 (j - 0).toNat
  obtain ⟨g1, g2, g3⟩ := newTup (vs := rgV 0 j) (ds := rngD 0 j.toNat) o1 (by unfold rgV; rw [show (j - 0).toNat = j.toNat by omega] at r ⊢; exact r) hp hob
  exact k _ _ _ _ _ (e1.trans g1) g2 g3 q1
end
end DL

namespace DL
open PySem PySem.Spec PyProof.Rows L2
section
variable {X : Cx} {a : Expr} {p p2 q pos : Pos} {d : TED}
def tLenSetT (K : PySem.W.Frag) (ta : TE) : TE := fun σ H Q => ta σ H fun x H1 => ∃ (l : Addr) (ns : List Int), x = V.ref l ∧ SqT K H1 l (ns.map V.int) ∧ ns.length < 60 ∧
  ∀ out : List Int, out.Nodup → (∀ k, k ∈ out ↔ k ∈ ns) → Q (.int out.length) H1
theorem pe_lenSetT {ta : TE} (hc : X.calm = true) (hg : Gl X "len") (hm : X.mg "len" = none) (hg2 : Gl X "set") (hm2 : X.mg "set" = none) (ha : PE X a ta)
    (na : starEach [a] X.env = (false, eval a X.env) :: starEach [] X.env := by rfl) : PE X (.Call (.Name "len" p) [.Call (.Name "set" p2) [a] [] q] [] pos) (tLenSetT X.K ta) := by
  refine ⟨fun pins s σ H Q I h => ?_⟩
  refine Call_ (ld_blt I hg hm PySem.boot_len ?_)
  refine PyProof.Rows.callWith_builtin1 (PyProof.Rows.args_cons ?_ rfl) rfl rfl
  refine Call_ (ld_blt I hg2 hm2 PyProof.Rows.boot_set ?_)
  refine PyProof.Rows.callWith_type1 (PyProof.Rows.args_cons (thn (ha.run pins s σ H _ I h) fun v s1 ⟨x, H1, I1, r1, q1⟩ => PyProof.Rows.args_nil ?_) na) na rfl
  obtain ⟨l, ns, rfl, hq, h1, q1⟩ := q1
  cases r1
  obtain ⟨its, r, pt, hz⟩ := I1.tuple hq
  have hi : IntsAre its.toArray.toList ns := ints_of_vals r
  refine call_set_tupI ns (I1.ok.hd hc) (show s1.heap.IsTuple l its.toArray from pt) hi (by unfold scanBound; omega) fun h' tk c R hcn k => ?_
  refine PyProof.Rows.args_nil ?_
  have I2 : Inv X pins σ H1 { s1 with heap := h', toks := tk } := I1.kept k
  obtain ⟨o, es, ep, t, ho, hex, hdt, g, nd, hm2, hb, hf, hn, hr, hl2⟩ := R
  have hsz : (es.toList.map keyOf).length = es.size := by rw [List.length_map, Array.length_toList]
  refine call_len_set (s := { s1 with heap := h', toks := tk }) ho hex hdt hf (by rw [hn] <;> omega) ⟨.int es.size, H1, I2.tok _, ⟨_, rfl⟩, ?_⟩
  have := q1 (es.toList.map keyOf) nd (fun k => by rw [← hm2 k]; simp)
  rw [hsz] at this
  exact this
@[simp] def dSortSetF (d : TED) : TFD := fun ρ μ Q => d ρ μ fun x μ1 => match x with
  | .tup xs => ∃ ns : List Int, xs = ns.map D.int ∧ ns.length < 60 ∧ ∀ out : List Int, out.Pairwise (· < ·) → (∀ k, k ∈ out ↔ k ∈ ns) → Q (out.map D.int) μ1
  | _ => False
@[simp] def dLenSet (d : TED) : TED := fun ρ μ Q => d ρ μ fun x μ1 => match x with
  | .tup xs => ∃ ns : List Int, xs = ns.map D.int ∧ ns.length < 60 ∧ ∀ out : List Int, out.Nodup → (∀ k, k ∈ out ↔ k ∈ ns) → Q (.int out.length) μ1
  | _ => False
theorem de_lenSet (hc : X.calm = true) (hg : Gl X "len") (hm : X.mg "len" = none) (hg2 : Gl X "set") (hm2 : X.mg "set" = none) (he : DW X a d)
    (na : starEach [a] X.env = (false, eval a X.env) :: starEach [] X.env := by rfl) : DE X (.Call (.Name "len" p) [.Call (.Name "set" p2) [a] [] q] [] pos) (dLenSet d) := (pe_lenSetT hc hg hm hg2 hm2 he na).weaken fun σ H Q q => by
  obtain ⟨F, ρ, μ, Qd, R, hd, k⟩ := q
  refine ⟨F, ρ, μ, _, R, hd, fun v F1 μ1 H1 dv e1 o1 w1 q1 => ?_⟩
  cases dv <;> first | exact q1.elim | skip
  obtain ⟨ns, rfl, hl, q1⟩ := q1
  obtain ⟨b, vs, rfl, hb, hf, r⟩ := w1.tup o1
  have e2 := Dts.ints r
  subst e2
  exact ⟨b, ns, rfl, hb, hl, fun out hn hm => k _ _ _ _ _ e1 o1 (.int _) (q1 out hn hm)⟩
end
section
variable {X : Cx}
def rdNilC (f : Bool → Bool) : RD2
  | .lst xs, .lst ys, μ, Q => ys = [] ∧ Q (.bl (f xs.isEmpty)) μ
  | _, _, _, _ => False
@[simp] theorem rdNilC_1 {f : Bool → Bool} {xs : List D} {μ : Sto} {Q : DK} : rdNilC f (.lst xs) (.lst []) μ Q = Q (.bl (f xs.isEmpty)) μ := by
  show (([] : List D) = [] ∧ _) = _
  simp
end
end DL

namespace DL
open PySem PySem.Spec PyProof.Rows L2
theorem pick_one (items : Array Value) : slicePick items none none (some 1) = items := by
  have e : sliceBounds none none (some 1) items.size = sliceBounds none none none items.size := by simp [sliceBounds]
  have h := slicePick_all items
  unfold slicePick at h ⊢
  rw [e]; exact h
section
variable {X : Cx} {e f : Expr} {d g : TED} {p pos : Pos}
def tStepL (K : PySem.W.Frag) (te ts : TE) : TE := fun σ H Q => te σ H fun x H1 => tPart ts σ H1 fun o H2 => ∃ a xs ys, x = .ref a ∧ SqL K H2 a xs ∧ ((o = some (-1) ∧ ys = xs.reverse) ∨ (o = some 1 ∧ ys = xs)) ∧ ∀ p, H2 p = none → Q (.ref p) (upd H2 p (.lst ys))
theorem pe_stepL {te ts : TE} {p3 : Pos} (he : PE X e te) (hf : PE X f ts) : PE X (.Subscript e (.Slice none none (some f) p3) pos) (tStepL X.K te ts) := by
  refine ⟨fun pins s σ H Q I h => ?_⟩
  refine Subscript_ (thn (he.run pins s σ H _ I h) fun v s1 ⟨x, H1, I1, r1, q1⟩ => ?_)
  refine wpAny_Slice (thn (po_none.run pins s1 σ H1 (fun o H2 => o = none ∧ H2 = H1) I1 ⟨rfl, rfl⟩) fun vl s2 ⟨l, H2, I2, pl, el, e2⟩ => ?_)
  subst el e2
  refine thn (po_none.run pins s2 σ H2 (fun o H3 => o = none ∧ H3 = H2) I2 ⟨rfl, rfl⟩) fun vu s3 ⟨u, H3, I3, pu, eu, e3⟩ => ?_
  subst eu e3
  refine thn ((po_some hf).run pins s3 σ H3 (fun o H4 => ∃ a xs ys, x = .ref a ∧ SqL X.K H4 a xs ∧ ((o = some (-1) ∧ ys = xs.reverse) ∨ (o = some 1 ∧ ys = xs)) ∧ ∀ p, H4 p = none → Q (.ref p) (upd H4 p (.lst ys))) I3 q1) fun vs s4 ⟨o, H4, I4, ps, a, xs, ys, ex, hx, ho, q⟩ => ?_
  subst ex
  cases r1
  have I5 : Inv X pins σ H4 { s4 with heap := s4.heap.push { cls := .type "slice", data := .fields #[vl, vu, vs] } } := I4.kept (t' := s4.toks) fun b ob q => Heap.get?_push_of_some _ q
  obtain ⟨its, r, ht, hz⟩ := I5.list hx
  have hlen := r.length
  show wpAny (model X.prog X.w) X.A (subscriptTail e (.Slice none none (some f) p3) (.ref a) (.ref s4.heap.objs.size)) (EP X pins σ Q) X.xe { s4 with heap := s4.heap.push { cls := .type "slice", data := .fields #[vl, vu, vs] } }
  refine tail_any (ops := [.ref a, .ref s4.heap.objs.size]) ht.isList.typeIs (PySem.slot_list_getitem.lookup) ?_ (by with_unfolding_all rfl)
  refine wpAny_getItem_list_slice ht.isList (Heap.IsSliceOf.new _ vl vu vs) pl pu ps (by rcases ho with ⟨e, _⟩ | ⟨e, _⟩ <;> rw [e] <;> decide) ?_ (by rw [List.size_toArray]; omega)
  rcases ho with ⟨rfl, rfl⟩ | ⟨rfl, rfl⟩
  · rw [PySem.W.krv_pick]
    refine ⟨.ref _, _, I5.laid (t' := s4.toks) (o := .lst xs.reverse) (fun b ob q => Heap.get?_push_of_some _ q) (Nat.le_refl _) ?_, rfl, q _ (I5.hok.fresh (Nat.le_refl _))⟩
    exact ⟨by rw [List.length_reverse]; exact hz, _, 0, r.reverse, Heap.get?_push_size _ rfl⟩
  · rw [pick_one]
    refine ⟨.ref _, _, I5.laid (t' := s4.toks) (o := .lst ys) (fun b ob q => Heap.get?_push_of_some _ q) (Nat.le_refl _) ?_, rfl, q _ (I5.hok.fresh (Nat.le_refl _))⟩
    exact ⟨hz, _, 0, r, Heap.get?_push_size _ rfl⟩
@[simp] def dStepL (d g : TED) : TED := fun ρ μ Q => d ρ μ fun x μ1 => g ρ μ1 fun i μ2 => ∃ xs, lstOf μ2 x = some xs ∧ ((i = .int (-1) ∧ Q (.lst xs.reverse) μ2) ∨ (i = .int 1 ∧ Q (.lst xs) μ2))
theorem de_stepL {p3 : Pos} (he : DW X e d) (hf : DE X f g) : DE X (.Subscript e (.Slice none none (some f) p3) pos) (dStepL d g) := (pe_stepL he hf).weaken fun σ H Q q => by
  obtain ⟨F, ρ, μ, Qd, R, hd, k⟩ := q
  refine ⟨F, ρ, μ, _, R, hd, fun v F1 μ1 H1 dv e1 o1 w1 q1 => ?_⟩
  refine ⟨F1, ρ, μ1, _, R.ext e1 o1, q1, fun i F2 μ2 H2 di e2 o2 w2 q2 => ?_⟩
  obtain ⟨xs, hx, q2⟩ := q2
  obtain ⟨a, vs, rfl, ha, r⟩ := (w1.ext e2).list o2 hx
  rcases q2 with ⟨rfl, q2⟩ | ⟨rfl, q2⟩
  · cases w2
    refine ⟨-1, rfl, a, vs, vs.reverse, rfl, ha, .inl ⟨rfl, rfl⟩, fun p hp => ?_⟩
    obtain ⟨g1, g2, g3⟩ := newLst o2 r.reverse hp
    exact k _ _ _ _ _ ((e1.trans e2).trans g1) g2 g3 q2
  · cases w2
    refine ⟨1, rfl, a, vs, vs, rfl, ha, .inr ⟨rfl, rfl⟩, fun p hp => ?_⟩
    obtain ⟨g1, g2, g3⟩ := newLst o2 r hp
    exact k _ _ _ _ _ ((e1.trans e2).trans g1) g2 g3 q2
end
end DL

namespace DL
open PySem PySem.Spec PyProof.Rows L2
/-- _law_deck(script) -/
def sp_lawE_deck : DSp := fun ds μ Q _ => ∃ ns : List Int, ds = [.scr ns] ∧ ns.length ≤ 63 ∧ ∀ j c μ', Jar j c 0 μ' → μ j = none → μ c = none → Same j c μ μ' → Q (.ref j) μ'
/-- _law_deck(_law_script); slots 0:_law_script 1:_law_cell -/
def b_lawE_deck : TSD :=
  (dRet (dM (dLstF (dCons (dM (dLc [1] (dEach (dSl (dLook 0) dNoPart (dPart (dC (.int 61))))) (dName 1) dYes (dFn rdAbs (dCons (dLook 1) dNil)))) (dCons (dC (.int 0)) dNil)))))
theorem len_lawE_deck : ∀ ds μ Q E, sp_lawE_deck ds μ Q E → ds.length = 1 := by
  rintro ds μ Q E ⟨ns, rfl, _⟩; rfl
theorem ok_lawE_deck : ∀ ds μ Q E, sp_lawE_deck ds μ Q E → b_lawE_deck { nx := fun _ μ' => Q .non μ', rt := Q } (startD 2 ds) μ := by
  rintro ds μ Q E ⟨ns, rfl, hn, q⟩
  simp [b_lawE_deck]
  rw [show (61 : Int) = ((61 : Nat) : Int) from rfl, cut_take]
  refine lcD_map (fun x => match x with | .int i => .int (if i < 0 then -i else i) | d => d) _ (by simp; omega) ?_ ?_
  · intro x hx k hk
    obtain ⟨i, _, rfl⟩ := List.mem_map.mp hx
    simpa using hk
  · intro p hp p1 hp1
    have hne : p1 ≠ p := fun e => by subst e; rw [sset_same] at hp1; cases hp1
    refine q p1 p _ ⟨0, (ns.take 61).map (·.natAbs), Nat.le_refl _, hne, sset_same, ?_, by simp; omega⟩ (by rw [sset_ne hne] at hp1; exact hp1) hp fun a h1 h2 => by rw [sset_ne h1, sset_ne h2]
    rw [sset_ne hne.symm, sset_same]
    congr 2
    rw [List.map_map, List.map_map]
    refine List.map_congr_left fun i _ => ?_
    show D.int _ = D.int _
    congr 1
    show (if i < 0 then -i else i) = (i.natAbs : Int)
    split <;> omega
/-- _law_draw(deck, many) -/
def sp_lawE_draw : DSp := drawSp 1 fun r R => ∃ m : Nat, r = [.int m] ∧ 0 < m ∧ m < 1000000000 ∧ R = fun d => ∃ x : Nat, x < m ∧ d = .int x
def b_lawE_draw_3t_2 : TSD :=
  (dSetR 2 (dVal (dOp rdIx (dOp rdIx (dLook 0) (dC (.int 0))) (dLook 3))))
def b_lawE_draw_3t : TSD :=
  (dSeq (dSetR 3 (dVal (dOp rdMod (dOp rdIx (dLook 0) (dC (.int 1))) (dFn rdLen (dCons (dOp rdIx (dLook 0) (dC (.int 0))) dNil)))))
  b_lawE_draw_3t_2)
def b_lawE_draw_4t_2 : TSD :=
  (dRet (dOp rdMod (dLook 2) (dLook 1)))
def b_lawE_draw_4t : TSD :=
  (dSeq (dPutM (dOp rdDiv (dLook 2) (dLook 1)) (dOp rdIx (dLook 0) (dC (.int 0))) (dLook 3))
  b_lawE_draw_4t_2)
def b_lawE_draw_7 : TSD :=
  (dRet (dOp rdMod (dOp rdDiv (dLook 4) (dC (.int 16))) (dLook 1)))
def b_lawE_draw_6 : TSD :=
  (dSeq (dSetR 4 (dVal (dOp rdMod (dOp rdPow (dOp rdAdd (dLook 4) (dOp rdMul (dC (.int 86028121)) (dOp rdIx (dLook 0) (dC (.int 1))))) (dC (.int 3))) (dC (.int 2147483587)))))
  b_lawE_draw_7)
def b_lawE_draw_5 : TSD :=
  (dSeq (dSetR 4 (dVal (dOp rdMod (dOp rdPow (dOp rdAdd (dOp rdAdd (dOp rdMod (dLook 2) (dC (.int 2147483549))) (dOp rdMul (dC (.int 32452867)) (dOp rdIx (dLook 0) (dC (.int 1))))) (dC (.int 29))) (dC (.int 3))) (dC (.int 2147483629)))))
  b_lawE_draw_6)
def b_lawE_draw_4 : TSD :=
  (dSeq (dIfS (dB (dOp rdGe (dLook 2) (dOp rdPow (dC (.int 10)) (dC (.int 18)))))
  b_lawE_draw_4t
  dNext)
  b_lawE_draw_5)
def b_lawE_draw_3 : TSD :=
  (dSeq (dIfS (dB (dOp rdNeR (dOp rdIx (dLook 0) (dC (.int 0))) (dLst dNil)))
  b_lawE_draw_3t
  dNext)
  b_lawE_draw_4)
def b_lawE_draw_2 : TSD :=
  (dSeq (dAsg (dTup (dCons (dC (.int 0)) (dCons (dC (.int 0)) dNil))) (dUnp 2 (gdCons (dName 2) (gdCons (dName 3) gdNil))))
  b_lawE_draw_3)
/-- _law_draw(_law_deck_here, _law_many); slots 0:_law_deck_here 1:_law_many 2:_law_cell 3:_law_spot 4:_law_mixed_here -/
def b_lawE_draw : TSD :=
  (dSeq (dPutM (dOp rdAdd (dOp rdIx (dLook 0) (dC (.int 1))) (dC (.int 1))) (dVar 0) (dC (.int 1)))
  b_lawE_draw_2)
theorem len_lawE_draw : ∀ ds μ Q E, sp_lawE_draw ds μ Q E → ds.length = 2 := by
  rintro ds μ Q E ⟨j, c, b, r, rfl, _, _, R, ⟨m, rfl, _⟩, _⟩; rfl
theorem ok_lawE_draw : ∀ ds μ Q E, sp_lawE_draw ds μ Q E → b_lawE_draw { nx := fun _ μ' => Q .non μ', rt := Q } (startD 5 ds) μ := by
  rintro ds μ Q E ⟨j, c, b, r, rfl, ⟨n, cells, hn, hjc, hj, hc, hl⟩, hb, R, ⟨m, rfl, m0, m1, rfl⟩, q⟩
  unfold b_lawE_draw
  rw [dSeq]
  simp [hj, -dSeq]
  have hj1 : sset μ j (MO.lst [D.ref c, D.int (↑n + 1)]) j = some (.lst [D.ref c, D.int ((n + 1 : Nat) : Int)]) := sset_same
  have hc1 : sset μ j (MO.lst [D.ref c, D.int (↑n + 1)]) c = some (.lst (cells.map fun x : Nat => D.int x)) := by rw [sset_ne hjc.symm]; exact hc
  have s1 : Same j c μ (sset μ j (MO.lst [D.ref c, D.int (↑n + 1)])) := fun a h1 _ => sset_ne h1
  generalize sset μ j (MO.lst [D.ref c, D.int (↑n + 1)]) = μ1 at hj1 hc1 s1
  have r1 : refLst μ1 c = some (cells.map fun x : Nat => D.int x) := by unfold refLst; rw [hc1]
  have fin : ∀ v : Int, Q (D.int (v % (m : Int))) μ1 := fun v => by
    have h1 := Int.emod_nonneg v (b := (m : Int)) (by omega)
    have h2 := Int.emod_lt_of_pos v (b := (m : Int)) (by omega)
    exact q _ _ ⟨(v % (m : Int)).toNat, by omega, by congr 1; omega⟩ ⟨n + 1, cells, by omega, hjc, hj1, hc1, hl⟩ s1
  have tail : ∀ cell spot : Nat, ((10 : Int) ^ 18 ≤ cell → cells[spot]? = some cell) → b_lawE_draw_4 { nx := fun _ μ' => Q .non μ', rt := Q } [some (.val (.ref j)), some (.val (.int m)), some (.val (.int cell)), some (.val (.int spot)), none] μ1 := by
    intro cell spot hs
    unfold b_lawE_draw_4 b_lawE_draw_4t b_lawE_draw_4t_2
    rw [dSeq]
    simp [powOk, -dSeq]
    split
    · rename_i h18
      have hs := hs h18
      have hlt : spot < cells.length := (List.getElem?_eq_some_iff.mp hs).1
      simp [hj1, hc1, m0, divOk, hlt, show (m : Int) < 1073741824 by omega]
      refine q _ _ ⟨cell % m, Nat.mod_lt _ m0, rfl⟩ ⟨n + 1, cells.set spot (cell / m), by omega, hjc, by rw [sset_ne hjc]; exact hj1, ?_, by simpa using hl⟩ fun a h1 h2 => by rw [sset_ne h2]; exact s1 a h1 h2
      rw [sset_same]
      simp [List.map_set]
    · unfold b_lawE_draw_5 b_lawE_draw_6 b_lawE_draw_7
      simp [hj1, mulOk, divOk, powOk, m0]
      have b1 := Int.emod_nonneg (cell : Int) (b := 2147483549) (by omega)
      have b2 := Int.emod_lt_of_pos (cell : Int) (b := 2147483549) (by omega)
      have b3 := Int.emod_nonneg (((cell : Int) % 2147483549 + 32452867 * ((n : Int) + 1) + 29) ^ 3) (b := 2147483629) (by omega)
      have b4 := Int.emod_lt_of_pos (((cell : Int) % 2147483549 + 32452867 * ((n : Int) + 1) + 29) ^ 3) (b := 2147483629) (by omega)
      have b5 := Int.emod_nonneg (((cell : Int) % 2147483549 + 32452867 * ((n : Int) + 1) + 29) ^ 3 % 2147483629 + 86028121 * ((n : Int) + 1)) (b := 2147483587) (by omega)
      exact ⟨by omega, by omega, fin _⟩
  show b_lawE_draw_2 _ _ _
  unfold b_lawE_draw_2
  rw [dSeq]
  simp [-dSeq]
  unfold b_lawE_draw_3 b_lawE_draw_3t b_lawE_draw_3t_2
  rw [dSeq]
  have okk : okEq (.lst (cells.map fun x : Nat => D.int x)) (.lst []) := by
    have := okEq_ints (cells.map fun x : Nat => (x : Int)) []
    rwa [List.map_map] at this
  simp [hj1, r1, -dSeq]
  refine ⟨_, hc1, okk, ?_⟩
  rw [eqvs_nil_r]
  cases cells with
  | nil =>
    exact tail 0 0 (fun h => by omega)
  | cons z zs =>
    rw [if_neg (by simp)]
    rw [dSeq]
    have hp := Int.emod_nonneg ((n : Int) + 1) (b := (zs.length : Int) + 1) (by omega)
    have hp2 := Int.emod_lt_of_pos ((n : Int) + 1) (b := (zs.length : Int) + 1) (by omega)
    obtain ⟨sp, hsp⟩ : ∃ sp : Nat, ((n : Int) + 1) % ((zs.length : Int) + 1) = (sp : Int) := ⟨_, (Int.toNat_of_nonneg hp).symm⟩
    have hlt : sp < (z :: zs).length := by simp; omega
    simp [hj1, hc1, r1, divOk, -dSeq]
    refine ⟨D.int ((z :: zs)[sp] : Nat), ?_, ?_⟩
    · rw [hsp]
      show atI ((z :: zs).map fun x : Nat => D.int x) (sp : Int) = _
      rw [atI_nat, List.getElem?_map, List.getElem?_eq_getElem hlt]
      rfl
    · rw [hsp]
      exact tail _ _ (fun _ => by simp [hlt])
theorem dr_ok {j c : Addr} {b m : Nat} {μ0 μ : Sto} {Q : DK} {E : DXK} (h : St j c μ0 b μ) (hb : b + 1 ≤ 1000000) (m0 : 0 < m) (m1 : m < 1000000000) (q : ∀ (x : Nat) μ', x < m → St j c μ0 (b + 1) μ' → Q (.int x) μ') :
    sp_lawE_draw [.ref j, .int m] μ Q E := draw_ok h hb ⟨m, rfl, m0, m1, rfl⟩ fun d μ' ⟨x, hx, e⟩ h2 => e ▸ q x μ' hx h2
/-- the items of what is given: by value or a list that may change -/
def ItemsR (j c : Addr) (μ : Sto) (it : D) (xs : List D) : Prop := Items it xs ∨ ∃ a, it = .ref a ∧ a ≠ j ∧ a ≠ c ∧ μ a = some (.lst xs)
def sp_lawE_one : DSp := fun ds μ Q _ => ∃ j c b it xs, ds = [.ref j, it] ∧ Jar j c b μ ∧ b + 1 ≤ 1000000 ∧ ItemsR j c μ it xs ∧ xs ≠ [] ∧ xs.length < 1000000000 ∧ ∀ d μ', d ∈ xs → Jar j c (b + 1) μ' → Same j c μ μ' → Q d μ'
/-- _law_one(_law_deck_here, _law_items); slots 0:_law_deck_here 1:_law_items -/
def b_lawE_one : TSD :=
  (dRet (dOp rdIx (dLook 1) (dCall sp_lawE_draw (dCons (dVar 0) (dCons (dFn rdLen (dCons (dLook 1) dNil)) dNil)) noD)))
theorem len_lawE_one : ∀ ds μ Q E, sp_lawE_one ds μ Q E → ds.length = 2 := by
  rintro ds μ Q E ⟨j, c, b, it, xs, rfl, _⟩; rfl
theorem ok_lawE_one : ∀ ds μ Q E, sp_lawE_one ds μ Q E → b_lawE_one { nx := fun _ μ' => Q .non μ', rt := Q } (startD 2 ds) μ := by
  rintro ds μ Q E ⟨j, c, b, it, xs, rfl, hJ, hb, hi, h0, h1, q⟩
  have hl : 0 < xs.length := List.length_pos_iff.mpr h0
  have st : St j c μ b μ := ⟨hJ, .refl⟩
  unfold b_lawE_one
  rcases hi with hi | ⟨a, rfl, aj, ac, ha⟩
  · cases hi with
    | lst =>
      simp
      refine dr_ok st hb hl h1 fun x μ' hx s => ?_
      simp [atI_nat, hx]
      exact q _ _ (List.getElem_mem hx) s.1 s.2
    | tup =>
      simp
      refine dr_ok st hb hl h1 fun x μ' hx s => ?_
      simp [atI_nat, hx]
      exact q _ _ (List.getElem_mem hx) s.1 s.2
    | str hs =>
      rename_i s
      have e : (strD s).length = s.length := by simp [strD]
      rw [e] at hl h1
      simp at hs ⊢
      refine ⟨hs, dr_ok st hb hl h1 fun x μ' hx st => ?_⟩
      simp [atI_nat, hx, hs]
      exact q _ _ (List.mem_map.mpr ⟨_, List.getElem_mem hx, rfl⟩) st.1 st.2
  · have r1 : refLst μ a = some xs := by unfold refLst; rw [ha]
    simp [r1, ha]
    refine dr_ok st hb hl h1 fun x μ' hx s => ?_
    have ha' : μ' a = some (.lst xs) := by rw [s.2 a aj ac]; exact ha
    simp [ha', atI_nat, hx]
    exact q _ _ (List.getElem_mem hx) s.1 s.2
theorem one_ok {j c : Addr} {b : Nat} {μ0 μ : Sto} {it : D} {xs : List D} {Q : DK} {E : DXK} (h : St j c μ0 b μ) (hb : b + 1 ≤ 1000000) (hi : ItemsR j c μ it xs) (h0 : xs ≠ []) (h1 : xs.length < 1000000000) (q : ∀ x μ', x ∈ xs → St j c μ0 (b + 1) μ' → Q x μ') :
    sp_lawE_one [.ref j, it] μ Q E := ⟨j, c, b, it, xs, rfl, h.1, hb, hi, h0, h1, fun d μ' hx h2 h3 => q d μ' hx ⟨h2, h.2.trans h3⟩⟩
def sp_lawE_word : DSp := drawSp 40 fun r R => ∃ m : Nat, r = [.int m] ∧ m ≤ 30 ∧ R = fun d => ∃ s, d = .str s ∧ Low s ∧ s.length ≤ m
theorem word_dr {j c : Addr} {b m : Nat} {μ0 μ : Sto} {Q : DK} {E : DXK} (h : St j c μ0 b μ) (hb : b + 40 ≤ 1000000) (m1 : m ≤ 30) (q : ∀ (s : List Nat) μ', Low s → s.length ≤ m → St j c μ0 (b + 40) μ' → Q (.str s) μ') :
    sp_lawE_word [.ref j, .int m] μ Q E := draw_ok h hb ⟨m, rfl, m1, rfl⟩ fun d μ' ⟨s, e, h1, h2⟩ h3 => e ▸ q s μ' h1 h2 h3
def b_lawE_word_2 : TSD :=
  (dRet (dMt "str" rdJoin (dC (.str [])) (dCons (dF (dLc [3] (dRng1 (dCons (dCall sp_lawE_draw (dCons (dVar 0) (dCons (dOp rdAdd (dLook 1) (dC (.int 1))) dNil)) noD) dNil)) (dName 3) dYes (dCall sp_lawE_one (dCons (dVar 0) (dCons (dVar 2) dNil)) noD))) dNil)))
/-- _law_word(_law_deck_here, _law_most); slots 0:_law_deck_here 1:_law_most 2:_law_letters 3:_law_k -/
def b_lawE_word : TSD :=
  (dSeq (dSetR 2 (dVal (dCall sp_lawE_one (dCons (dVar 0) (dCons (dLst (dCons (dC (.str [97])) (dCons (dC (.str [97, 98])) (dCons (dC (.str [97, 98, 99])) (dCons (dC (.str [97, 98, 99])) (dCons (dC (.str [97, 98, 99, 100, 101, 102, 103, 104, 105, 106, 107, 108, 109, 110, 111, 112, 113, 114, 115, 116, 117, 118, 119, 120, 121, 122])) dNil)))))) dNil)) noD)))
  b_lawE_word_2)
theorem len_lawE_word : ∀ ds μ Q E, sp_lawE_word ds μ Q E → ds.length = 2 := by
  rintro ds μ Q E ⟨j, c, b, r, rfl, _, _, R, ⟨m, rfl, _⟩, _⟩; rfl
theorem ok_lawE_word : ∀ ds μ Q E, sp_lawE_word ds μ Q E → b_lawE_word { nx := fun _ μ' => Q .non μ', rt := Q } (startD 4 ds) μ := by
  rintro ds μ Q E ⟨j, c, b, r, rfl, hJ, hb, R, ⟨m, rfl, hm, rfl⟩, q⟩
  have s0 : St j c μ b μ := ⟨hJ, .refl⟩
  have fin : ∀ s μ', Low s → s.length ≤ m → St j c μ (b + 40) μ' → Q (.str s) μ' := fun s μ' h1 h2 h3 => q _ _ ⟨s, rfl, h1, h2⟩ h3.1 h3.2
  unfold b_lawE_word
  rw [dSeq]
  simp [-dSeq]
  refine one_ok s0 (by omega) (.inl .lst) (by simp) (by simp) fun x μ1 hx s1 => ?_
  have hx : ∃ nm, x = .str nm ∧ Low nm ∧ nm ≠ [] ∧ nm.length ≤ 30 := by
    simp at hx
    rcases hx with rfl | rfl | rfl | rfl <;> exact ⟨_, rfl, by intro c hc; simp at hc; omega, by simp, by simp⟩
  obtain ⟨nm, rfl, hlow, hne, hnl⟩ := hx
  unfold b_lawE_word_2
  simp [-dSeq]
  refine dr_ok (m := m + 1) s1 (by omega) (by omega) (by omega) fun size μ2 hsz s2 => ?_
  simp [rngOk, -dSeq]
  refine ⟨by omega, ?_⟩
  refine lcD_inv (fun xs acc μ' => ∃ l, acc = strD l ∧ Low l ∧ l.length + xs.length = size ∧ St j c μ (b + 2 + l.length) μ') (fun _ _ _ _ => trivial) ?_ ?_ _ _ _ ⟨[], rfl, (fun _ h => nomatch h), by simp [rngD], s2⟩
  · rintro x xs acc μ' n ⟨l, rfl, hl, hlen, st⟩ hn
    simp at hlen
    simp
    refine one_ok st (by omega) (.inl (.str (by simp; omega))) (by simpa [strD] using hne) (by simp [strD]; omega) fun y μ3 hy s3 => ?_
    obtain ⟨ch, hch, rfl⟩ := List.mem_map.mp hy
    refine ⟨by simp [strD]; omega, hn _ _ ⟨l ++ [ch], by rw [strD_app]; rfl, hl.append fun d hd => by simp at hd; subst hd; exact hlow _ hch, by simp; omega, ?_⟩⟩
    rw [List.length_append, ← Nat.add_assoc]
    exact s3
  rintro acc μ3 ⟨l, rfl, hl, hlen, s3⟩
  simp at hlen
  refine ⟨l.map fun c => [c], strD_map l, by rw [sum_ones]; omega, ?_⟩
  rw [joinL_ones]
  exact fin _ _ hl (by omega) (s3.le (by omega))
def sp_lawE_below : DSp := drawSp 80 fun r R => ∃ (w : List Nat) (m : Nat), r = [.str w, .int m] ∧ Low w ∧ w.length ≤ 30 ∧ m ≤ 30 ∧ R = fun d => ∃ s, d = .str s ∧ Low s ∧ s.length ≤ m
theorem below_dr {j c : Addr} {b m : Nat} {w : List Nat} {μ0 μ : Sto} {Q : DK} {E : DXK} (h : St j c μ0 b μ) (hb : b + 80 ≤ 1000000) (hw : Low w) (hwl : w.length ≤ 30) (m1 : m ≤ 30) (q : ∀ (s : List Nat) μ', Low s → s.length ≤ m → St j c μ0 (b + 80) μ' → Q (.str s) μ') :
    sp_lawE_below [.ref j, .str w, .int m] μ Q E := draw_ok h hb ⟨w, m, rfl, hw, hwl, m1, rfl⟩ fun d μ' ⟨s, e, h1, h2⟩ h3 => e ▸ q s μ' h1 h2 h3
def b_lawE_below_2 : TSD :=
  (dRet (dSl (dOp rdAdd (dLook 3) (dCall sp_lawE_word (dCons (dVar 0) (dCons (dC (.int 3)) dNil)) noD)) dNoPart (dPart (dVar 2))))
/-- _law_below(_law_deck_here, _law_word_here, _law_most); slots 0:_law_deck_here 1:_law_word_here 2:_law_most 3:_law_kept 4:_law_letter -/
def b_lawE_below : TSD :=
  (dSeq (dSetR 3 (dVal (dMt "str" rdJoin (dC (.str [])) (dCons (dF (dLc [4] (dEach (dVar 1)) (dName 4) (dB (dOp rdGt (dCall sp_lawE_draw (dCons (dVar 0) (dCons (dC (.int 4)) dNil)) noD) (dC (.int 0)))) (dVar 4))) dNil))))
  b_lawE_below_2)
theorem len_lawE_below : ∀ ds μ Q E, sp_lawE_below ds μ Q E → ds.length = 3 := by
  rintro ds μ Q E ⟨j, c, b, r, rfl, _, _, R, ⟨w, m, rfl, _⟩, _⟩; rfl
theorem ok_lawE_below : ∀ ds μ Q E, sp_lawE_below ds μ Q E → b_lawE_below { nx := fun _ μ' => Q .non μ', rt := Q } (startD 5 ds) μ := by
  rintro ds μ Q E ⟨j, c, b, r, rfl, hJ, hb, R, ⟨w, m, rfl, hw, hwl, hm, rfl⟩, q⟩
  have s0 : St j c μ b μ := ⟨hJ, .refl⟩
  have fin : ∀ s μ', Low s → s.length ≤ m → St j c μ (b + 80) μ' → Q (.str s) μ' := fun s μ' h1 h2 h3 => q _ _ ⟨s, rfl, h1, h2⟩ h3.1 h3.2
  unfold b_lawE_below
  rw [dSeq]
  simp [-dSeq]
  refine lcD_inv (fun xs acc μ' => ∃ l r, acc = strD l ∧ xs = strD r ∧ Low l ∧ Low r ∧ l.length + r.length ≤ 30 ∧ St j c μ (b + 30 - r.length) μ') (fun _ _ _ _ => trivial) ?_ ?_ _ _ _ ⟨[], w, rfl, rfl, (fun _ h => nomatch h), hw, by simpa using hwl, s0.le (by omega)⟩
  · rintro x xs acc μ' n ⟨l, r, rfl, hr, hl, hrl, hlen, st⟩ hn
    cases r with
    | nil => cases hr
    | cons ch r =>
      cases hr
      simp at hlen
      simp
      refine dr_ok (m := 4) (st.le (b' := b + 30 - r.length - 1) (by simp; omega)) (by omega) (by omega) (by omega) fun y μ3 hy s3 => ?_
      have s3 : St j c μ (b + 30 - r.length) μ3 := s3.le (by omega)
      have hr2 : Low r := fun d hd => hrl d (by simp [hd])
      simp
      split
      · refine ⟨by simp [strD]; omega, hn _ _ ⟨l ++ [ch], r, by rw [strD_app]; rfl, rfl, hl.append fun d hd => by simp at hd; subst hd; exact hrl _ (by simp), hr2, by simp; omega, s3⟩⟩
      · exact hn _ _ ⟨l, r, rfl, rfl, hl, hr2, by omega, s3⟩
  rintro acc μ3 ⟨l, r, rfl, hr, hl, hrl, hlen, s3⟩
  have hr0 : r = [] := by cases r with
    | nil => rfl
    | cons a b => cases hr
  subst hr0
  simp at hlen s3
  refine ⟨l.map fun c => [c], strD_map l, by rw [sum_ones]; omega, ?_⟩
  rw [joinL_ones]
  unfold b_lawE_below_2
  simp
  refine word_dr (m := 3) s3 (by omega) (by omega) fun t μ4 ht htl s4 => ?_
  simp
  rw [cut_take]
  exact ⟨by omega, fin _ _ ((hl.append ht).take m) (by rw [List.length_take]; omega) (s4.le (by omega))⟩
theorem Jar.off {j c p : Addr} {b : Nat} {μ : Sto} (h : Jar j c b μ) (hp : μ p = none) : p ≠ j ∧ p ≠ c := by
  obtain ⟨n, cells, _, _, hj, hc, _⟩ := h
  exact ⟨fun e => (by rw [e, hj] at hp; cases hp), fun e => (by rw [e, hc] at hp; cases hp)⟩
theorem Jar.put {j c p : Addr} {b : Nat} {μ : Sto} {o : MO} (h : Jar j c b μ) (pj : p ≠ j) (pc : p ≠ c) : Jar j c b (sset μ p o) := by
  obtain ⟨n, cells, h1, h2, hj, hc, h3⟩ := h
  exact ⟨n, cells, h1, h2, by rw [sset_ne pj.symm]; exact hj, by rw [sset_ne pc.symm]; exact hc, h3⟩
theorem getD_lt {α : Type} {l : List α} {i : Nat} {d : α} (h : i < l.length) : l.getD i d = l[i] := by simp [List.getD, h]
/-- several words, of at most most letters -/
def Wds (most : Nat) (ws : List (List Nat)) : Prop := ∀ w ∈ ws, Low w ∧ w.length ≤ most
def sp_lawE_words : DSp := fun ds μ Q _ => ∃ j c b many most, ds = [.ref j, .int (many : Nat), .int (most : Nat)] ∧ Jar j c b μ ∧ b + 1500 ≤ 1000000 ∧ 0 < many ∧ many ≤ 8 ∧ most ≤ 30 ∧ ∀ ws μ', Wds most ws → 0 < ws.length → ws.length ≤ many → Jar j c (b + 1500) μ' → Q (shD ws) μ'
def b_lawE_words_2l_2 : TSD :=
  (dDrop (dMt "list" rdApp (dLook 3) (dCons (dOp rdIx (dLst (dCons (dCall sp_lawE_below (dCons (dVar 0) (dCons (dVar 5) (dCons (dVar 2) dNil))) noD) (dCons (dVar 5) (dCons (dCall sp_lawE_word (dCons (dVar 0) (dCons (dVar 2) dNil)) noD) dNil)))) (dOp rdMod (dOp rdMod (dCall sp_lawE_draw (dCons (dVar 0) (dCons (dC (.int 6)) dNil)) noD) (dC (.int 5))) (dC (.int 3)))) dNil)))
def b_lawE_words_2l : TSD :=
  (dSeq (dSetR 5 (dVal (dCall sp_lawE_one (dCons (dVar 0) (dCons (dVar 3) dNil)) noD)))
  b_lawE_words_2l_2)
def b_lawE_words_3 : TSD :=
  (dRet (dFn rdTuple (dCons (dStepL (dLook 3) (dOp rdIx (dLst (dCons (dC (.int 1)) (dCons (dNeg (dC (.int 1))) dNil))) (dCall sp_lawE_draw (dCons (dVar 0) (dCons (dC (.int 2)) dNil)) noD))) dNil)))
def b_lawE_words_2 : TSD :=
  (dSeq (dFor (dRng1 (dCons (dCall sp_lawE_draw (dCons (dVar 0) (dCons (dVar 1) dNil)) noD) dNil)) (dName 4)
  b_lawE_words_2l)
  b_lawE_words_3)
/-- _law_words(_law_deck_here, _law_many, _law_most); slots 0:_law_deck_here 1:_law_many 2:_law_most 3:_law_found 4:_law_k 5:_law_beside -/
def b_lawE_words : TSD :=
  (dSeq (dSetR 3 (dVal (dM (dLstF (dCons (dCall sp_lawE_word (dCons (dVar 0) (dCons (dVar 2) dNil)) noD) dNil)))))
  b_lawE_words_2)
theorem len_lawE_words : ∀ ds μ Q E, sp_lawE_words ds μ Q E → ds.length = 3 := by
  rintro ds μ Q E ⟨j, c, b, many, most, rfl, _⟩; rfl
theorem ok_lawE_words : ∀ ds μ Q E, sp_lawE_words ds μ Q E → b_lawE_words { nx := fun _ μ' => Q .non μ', rt := Q } (startD 6 ds) μ := by
  rintro ds μ Q E ⟨j, c, b, many, most, rfl, hJ, hb, m0, m8, hm, q⟩
  have s0 : St j c μ b μ := ⟨hJ, .refl⟩
  unfold b_lawE_words
  rw [dSeq]
  simp [-dSeq]
  refine word_dr s0 (by omega) hm fun w μ1 hw hwl s1 => ?_
  intro p hp
  obtain ⟨pj, pc⟩ := s1.1.off hp
  have J2 := s1.1.put pj pc (o := .lst [D.str w])
  have hp2 : sset μ1 p (MO.lst [D.str w]) p = some (.lst ([w].map D.str)) := sset_same
  generalize sset μ1 p (MO.lst [D.str w]) = μ2 at J2 hp2
  unfold b_lawE_words_2
  rw [dSeq]
  simp [-dSeq]
  refine dr_ok (m := many) (μ0 := μ2) ⟨J2, .refl⟩ (by omega) m0 (by omega) fun x μ3 hx s3 => ?_
  have hp3 : μ3 p = some (.lst ([w].map D.str)) := (s3.2 p pj pc).trans hp2
  simp [rngOk, -dSeq]
  refine ⟨by omega, ?_⟩
  refine forD_rng (fun i ρ μ' => ∃ x4 x5 ws, ρ = [some (.val (.ref j)), some (.val (.int many)), some (.val (.int most)), some (.val (.ref p)), x4, x5] ∧ Wds most ws ∧ ws.length = i + 1 ∧ Jar j c (b + 41 + 130 * i) μ' ∧ μ' p = some (.lst (ws.map D.str))) ?_ ?_ ⟨_, _, [w], rfl, (by intro v hv; simp at hv; subst hv; exact ⟨hw, hwl⟩), rfl, s3.1, hp3⟩
  · rintro i ρ μ4 n hi ⟨x4, x5, ws, rfl, hws, hlen, J4, hp4⟩ hn
    unfold b_lawE_words_2l
    simp [-dSeq]
    rw [dSeq]
    simp [-dSeq]
    refine one_ok (μ0 := μ4) ⟨J4, .refl⟩ (by omega) (.inr ⟨p, rfl, pj, pc, hp4⟩) (by intro e; have := congrArg List.length e; rw [List.length_map, hlen] at this; simp at this) (by rw [List.length_map]; omega) fun d μ5 hd s5 => ?_
    obtain ⟨v, hv, rfl⟩ := List.mem_map.mp hd
    have hv2 := hws v hv
    unfold b_lawE_words_2l_2
    simp
    refine ⟨⟨_, by unfold refLst; rw [s5.2 p pj pc, hp4]⟩, ?_⟩
    refine below_dr s5 (by omega) hv2.1 (by omega) hm fun u μ6 hu hul s6 => ?_
    refine word_dr s6 (by omega) hm fun t μ7 ht htl s7 => ?_
    refine dr_ok (m := 6) s7 (by omega) (by omega) (by omega) fun y μ8 hy s8 => ?_
    have hp8 : μ8 p = some (.lst (ws.map D.str)) := (s8.2 p pj pc).trans hp4
    obtain ⟨z, hz, hz2⟩ : ∃ z, atI [D.str u, D.str v, D.str t] ((y : Int) % 5 % 3) = some (.str z) ∧ (Low z ∧ z.length ≤ most) := by
      obtain ⟨d, h1, h2⟩ := atI_of (xs := [D.str u, D.str v, D.str t]) (i := (y : Int) % 5 % 3) (by omega) (by simp; omega)
      simp at h2
      rcases h2 with rfl | rfl | rfl
      · exact ⟨_, h1, hu, hul⟩
      · exact ⟨_, h1, hv2⟩
      · exact ⟨_, h1, ht, htl⟩
    simp [hp8]
    refine ⟨_, hz, by omega, hn _ _ ⟨_, _, ws ++ [z], rfl, ?_, by simp; omega, (s8.1.put pj pc).le (by omega), by rw [sset_same]; simp⟩⟩
    intro g hg
    rcases List.mem_append.mp hg with hg | hg
    · exact hws g hg
    · rw [List.mem_singleton.mp hg]; exact hz2
  · rintro ρ μ4 ⟨x4, x5, ws, rfl, hws, hlen, J4, hp4⟩
    have r1 : refLst μ4 p = some (ws.map D.str) := by unfold refLst; rw [hp4]
    unfold b_lawE_words_3
    simp
    refine dr_ok (m := 2) (μ0 := μ4) ⟨J4, .refl⟩ (by omega) (by omega) (by omega) fun y μ5 hy s5 => ?_
    have hp5 : refLst μ5 p = some (ws.map D.str) := by unfold refLst; rw [s5.2 p pj pc, hp4]
    have fin : ∀ vs, vs.length = ws.length → (∀ v ∈ vs, v ∈ ws) → Q (shD vs) μ5 := fun vs h1 h2 => q vs μ5 (fun v hv => hws v (h2 v hv)) (by omega) (by omega) (s5.1.le (by omega))
    rcases (show y = 0 ∨ y = 1 by omega) with rfl | rfl
    · refine ⟨.int 1, rfl, _, hp5, .inr ⟨rfl, ?_⟩⟩
      exact fin _ rfl fun v h => h
    · refine ⟨.int (-1), rfl, _, hp5, .inl ⟨rfl, ?_⟩⟩
      have := fin ws.reverse (by simp) fun v h => List.mem_reverse.mp h
      unfold shD at this
      rw [List.map_reverse] at this
      exact this
/-- an order of n sheets -/
def Ord (n : Nat) (o : List Nat) : Prop := o.length = n ∧ (∀ x ∈ o, x < n) ∧ o.Nodup
theorem Ord.of {n : Nat} {o : List Nat} (ho : o.Perm (List.range n)) : Ord n o :=
  ⟨by rw [ho.length_eq, List.length_range], fun x hx => List.mem_range.mp (ho.mem_iff.mp hx), ho.nodup_iff.mpr List.nodup_range⟩
def sp_is_order : DSp := fun ds μ Q _ => ∃ (n : Nat) (o : List Nat), ds = [.int n, .tup (nats o)] ∧ n ≤ 50 ∧ Ord n o ∧ Q (.bl true) μ
def b_is_order_2 : TSD :=
  (dRet (dAndV (dFn rdAll (dCons (dF (dLc [2] (dEach (dVar 1)) (dName 2) dYes (dCall sp_is_between (dCons (dVar 2) (dCons (dC (.int 0)) (dCons (dOp rdSub (dLook 0) (dC (.int 1))) dNil))) noD))) dNil)) (dOp rdEq (dLenSet (dLook 1)) (dLook 0))))
/-- is_order(count, value); slots 0:count 1:value 2:number -/
def b_is_order : TSD :=
  (dSeq (dIfS (dOr (dNot (dB (dFn rdIsi (dCons (dLook 1) (dCons (dC (.ty "tuple")) dNil))))) (dB (dOp rdNe (dFn rdLen (dCons (dLook 1) dNil)) (dLook 0))))
  (dRet (dC (.bl false)))
  dNext)
  b_is_order_2)
theorem len_is_order : ∀ ds μ Q E, sp_is_order ds μ Q E → ds.length = 2 := by
  rintro ds μ Q E ⟨n, o, rfl, _⟩; rfl
theorem ok_is_order : ∀ ds μ Q E, sp_is_order ds μ Q E → b_is_order { nx := fun _ μ' => Q .non μ', rt := Q } (startD 3 ds) μ := by
  rintro ds μ Q E ⟨n, o, rfl, hn, ho, q⟩
  obtain ⟨hl, hm, hd⟩ := ho
  unfold b_is_order b_is_order_2
  rw [dSeq]
  simp [-dSeq, hl]
  refine lcD_list o (fun x : Nat => D.int x) (fun x : Nat => D.bl true) trivial (by show _ ≤ 16777216; omega) (fun x hx k hk => ?_) ?_
  · have := hm x hx
    simp
    refine ⟨.int x, 0, (n : Int) - 1, rfl, rfl, ?_⟩
    rw [show btw (.int x) 0 ((n : Int) - 1) = true by unfold btw; simp; omega]
    exact hk
  · refine ⟨o.map fun _ => true, by simp, ?_⟩
    rw [if_neg (by simp)]
    refine ⟨o.map fun x : Nat => (x : Int), by simp [nats], by simp; omega, fun out h1 h2 => ?_⟩
    have e : out.length = o.length := by
      have := (List.perm_ext_iff_of_nodup (l₁ := out) (l₂ := o.map fun x : Nat => (x : Int)) h1 (List.pairwise_map.mpr (hd.imp fun h e => h (Int.ofNat.inj e)))).mpr h2
      rw [this.length_eq, List.length_map]
    rw [e, hl]
    simpa using q
def sp_order_price : DSp := fun ds μ Q _ => ∃ (ws : List (List Nat)) (o : List Nat), ds = [shD ws, .tup (nats o)] ∧ ShOk ws ∧ ws.length ≤ 50 ∧ Ord ws.length o ∧ Q (.int (fewS (o.map fun i => ws.getD i []))) μ
def b_order_price_2 : TSD :=
  (dRet (dCall sp_fewest_strokes (dCons (dFn rdTuple (dCons (dF (dLc [2] (dEach (dVar 1)) (dName 2) dYes (dOp rdIx (dLook 0) (dLook 2)))) dNil)) dNil) noD))
/-- order_price(sheets, value); slots 0:sheets 1:value 2:number -/
def b_order_price : TSD :=
  (dSeq (dIfS (dNot (dB (dCall sp_is_order (dCons (dFn rdLen (dCons (dLook 0) dNil)) (dCons (dVar 1) dNil)) noD)))
  dNever
  dNext)
  b_order_price_2)
theorem len_order_price : ∀ ds μ Q E, sp_order_price ds μ Q E → ds.length = 2 := by
  rintro ds μ Q E ⟨n, o, rfl, _⟩; rfl
theorem ok_order_price : ∀ ds μ Q E, sp_order_price ds μ Q E → b_order_price { nx := fun _ μ' => Q .non μ', rt := Q } (startD 3 ds) μ := by
  rintro ds μ Q E ⟨ws, o, rfl, hs, hn, ho, q⟩
  have hl := ho.1
  have hm := ho.2.1
  unfold b_order_price b_order_price_2
  rw [dSeq]
  simp [-dSeq]
  refine ⟨ws.length, o, rfl, hn, ho, ?_⟩
  simp
  refine lcD_list o (fun x : Nat => D.int x) (fun x : Nat => D.str (ws.getD x [])) trivial (by show _ ≤ 16777216; omega) (fun x hx k hk => ?_) ?_
  · have := hm x hx
    rw [getD_lt this] at hk
    simp [atI_nat, this]
    exact hk
  · refine ⟨o.map fun i => ws.getD i [], by unfold shD; rw [List.map_map]; rfl, ⟨by rw [List.length_map]; omega, fun w hw => ?_⟩, q⟩
    obtain ⟨i, hi, rfl⟩ := List.mem_map.mp hw
    rw [getD_lt (hm i hi)]
    exact hs.2 _ (List.getElem_mem _)
end DL

namespace DL
open PySem PySem.Spec PyProof.Rows L2
theorem find_cut {one : List Nat} {b i c : Nat} (e : (one.drop b).findIdx? (· == c) = some i) : b + i < one.length ∧ one.drop (b + i) = c :: one.drop (b + i + 1) := by
  obtain ⟨h1, h2, _⟩ := List.findIdx?_eq_some_iff_getElem.mp e
  rw [List.length_drop] at h1
  have hl : b + i < one.length := by omega
  rw [List.getElem_drop] at h2
  refine ⟨hl, ?_⟩
  rw [List.drop_eq_getElem_cons hl]
  simp at h2
  rw [h2]
/-- what is met is there -/
theorem fp_sub (one : List Nat) : ∀ (r : List Nat) (b : Nat), (r.take (fp one r b).length).Sublist (one.drop b)
  | [], b => by simp
  | c :: r, b => by
    rw [fp_cons]
    cases e : (one.drop b).findIdx? (· == c) with
    | none => simp
    | some i =>
      obtain ⟨h1, h2⟩ := find_cut e
      have ih := fp_sub one r (b + i + 1)
      have h3 : (one.drop (b + i)).Sublist (one.drop b) := by rw [← List.drop_drop]; exact List.drop_sublist _ _
      simp
      refine List.Sublist.trans ?_ h3
      rw [h2]
      exact List.Sublist.cons₂ c ih
/-- no way meets more -/
theorem fp_best (one : List Nat) : ∀ (r : List Nat) (b k : Nat), k ≤ r.length → (r.take k).Sublist (one.drop b) → k ≤ (fp one r b).length
  | [], b, k, hk, _ => by simp at hk; omega
  | c :: r, b, 0, _, _ => Nat.zero_le _
  | c :: r, b, k + 1, hk, h => by
    rw [List.take_succ_cons, List.cons_sublist_iff] at h
    obtain ⟨r1, r2, h1, h2, h3⟩ := h
    obtain ⟨j, hj, ej⟩ := List.getElem_of_mem h2
    have hm : c ∈ one.drop b := by rw [h1]; exact List.mem_append_left _ h2
    rw [fp_cons]
    cases e : (one.drop b).findIdx? (· == c) with
    | none =>
      rw [List.findIdx?_eq_none_iff] at e
      have := e c hm
      simp at this
    | some i =>
      obtain ⟨g1, g2, g3⟩ := List.findIdx?_eq_some_iff_getElem.mp e
      have hle : i ≤ j := by
        apply Decidable.byContradiction
        intro hc
        have h4 := g3 j (by omega)
        have h5 : (one.drop b)[j]'(by omega) = c := by
          have : (one.drop b)[j]'(by omega) = (r1 ++ r2)[j]'(by rw [List.length_append]; omega) := by simp only [h1]
          rw [this, List.getElem_append_left hj]
          exact ej
        rw [h5] at h4
        simp at h4
      simp
      refine fp_best one r _ k (by simpa using hk) (h3.trans ?_)
      have e2 : r2 = one.drop (b + r1.length) := by
        rw [← List.drop_drop, h1, List.drop_left]
      rw [e2, show b + r1.length = (b + i + 1) + (r1.length - i - 1) by omega, ← List.drop_drop]
      exact List.drop_sublist _ _
theorem fp_iff (one r : List Nat) (k : Nat) (hk : k ≤ r.length) : k ≤ (fp one r 0).length ↔ (r.take k).Sublist one := by
  constructor
  · intro h
    have := fp_sub one r 0
    rw [List.drop_zero] at this
    refine List.Sublist.trans ?_ this
    rw [show r.take k = (r.take (fp one r 0).length).take k by rw [List.take_take, Nat.min_eq_left h]]
    exact List.take_sublist _ _
  · intro h
    exact fp_best one r 0 k hk (by simpa using h)
@[simp] theorem inc_nil : inc [] = true := rfl
@[simp] theorem inc_one (x : Nat) : inc [x] = true := rfl
end DL

namespace DL
open PySem PySem.Spec PyProof.Rows L2
def cst (p x : List Nat) : Nat := x.length - (fp p x 0).length
def Gs : List Nat → List (List Nat) → Nat
  | _, [] => 0
  | p, a :: r => cst p a + Gs a r
theorem fewS_cons (a : List Nat) (r : List (List Nat)) : fewS (a :: r) = a.length + Gs a r := by
  induction r generalizing a with
  | nil => simp [fewS, lens, pcks, prs, Gs]
  | cons b r ih =>
    have h := ih b
    have h1 := fp_le a b 0
    unfold fewS pcks at h ⊢
    rw [prs_cons]
    simp [lens, Gs] at h ⊢
    unfold cst
    omega
abbrev rowO (ws : List (List Nat)) (o : List Nat) : List (List Nat) := o.map fun i => ws.getD i []
theorem Ord.range (n : Nat) : Ord n (List.range n) := .of (.refl _)
/-- one more sheet -/
theorem Ord.more {n : Nat} {o : List Nat} (h : Ord n o) (a : Nat) : Ord (n + 1) (o.take a ++ n :: o.drop a) := by
  have p : (o.take a ++ n :: o.drop a).Perm (n :: o) := by
    have := List.perm_middle (a := n) (l₁ := o.take a) (l₂ := o.drop a)
    rwa [List.take_append_drop] at this
  refine ⟨by rw [p.length_eq, List.length_cons, h.1], fun x hx => ?_, p.nodup_iff.mpr (List.nodup_cons.mpr ⟨fun hn => ?_, h.2.2⟩)⟩
  · rcases List.mem_cons.mp (p.mem_iff.mp hx) with rfl | hx
    · omega
    · have := h.2.1 x hx; omega
  · have := h.2.1 n hn; omega
end DL

namespace DL
open PySem PySem.Spec PyProof.Rows L2
def keyD : D → Option Key
  | .int i => some (.inl i)
  | .str s => some (.inr (S s))
  | _ => none
@[simp] theorem keyD_int (i : Int) : keyD (.int i) = some (.inl i) := rfl
def valD (kvs : List (Key × D)) (k : Key) : Option D := (kvs.find? fun kv => decide (kv.1 = k)).map (·.2)
def putD (kvs : List (Key × D)) (k : Key) (d : D) : List (Key × D) := if kvs.any fun kv => decide (kv.1 = k) then kvs.map fun kv => if kv.1 = k then (kv.1, d) else kv else kvs ++ [(k, d)]
section
variable {K : PySem.W.Frag} {mg : Str → Option Value} {F H : Hp} {μ : Sto}
theorem Wk.key (o : Ok K mg F μ H) {v : V} {d : D} {k : Key} (h : Wk K mg F μ H v d) (e : keyD d = some k) : v = kV k := by
  cases d <;> first | cases e; done | skip
  · cases e; exact h.int
  · cases e; exact h.str
theorem Dks.val : ∀ {vs : List (Key × V)} {ds : List (Key × D)}, Dks K mg F vs ds → ∀ k, (∀ d, valD ds k = some d → ∃ v, valV vs k = some v ∧ Dt K mg F v d) ∧ (valV vs k).isSome = (valD ds k).isSome
  | _, _, .nil, k => ⟨fun d h => (by cases h), rfl⟩
  | _, _, .cons (k := j) (v := v) (d := d) h r, k => by
    have ih := Dks.val r k
    by_cases e : j = k
    · subst e
      have e1 : ∀ ds, valD ((j, d) :: ds) j = some d := fun ds => by simp [valD]
      have e2 : ∀ vs, valV ((j, v) :: vs) j = some v := fun vs => by simp [valV]
      rw [e1, e2]
      exact ⟨fun d' h' => by cases h'; exact ⟨v, rfl, h⟩, rfl⟩
    · have e1 : ∀ ds, valD ((j, d) :: ds) k = valD ds k := fun ds => by simp [valD, e]
      have e2 : ∀ vs, valV ((j, v) :: vs) k = valV vs k := fun vs => by simp [valV, e]
      rw [e1, e2]
      exact ih
theorem Dks.len : ∀ {vs : List (Key × V)} {ds : List (Key × D)}, Dks K mg F vs ds → vs.length = ds.length
  | _, _, .nil => rfl
  | _, _, .cons _ r => congrArg (· + 1) (Dks.len r)
theorem Dks.any : ∀ {vs : List (Key × V)} {ds : List (Key × D)}, Dks K mg F vs ds → ∀ k, (vs.any fun kv => decide (kv.1 = k)) = ds.any fun kv => decide (kv.1 = k)
  | _, _, .nil, _ => rfl
  | _, _, .cons _ r, k => by rw [List.any_cons, List.any_cons, Dks.any r k]
theorem Dks.rep {v : V} {d : D} (h : Dt K mg F v d) (k : Key) : ∀ {vs : List (Key × V)} {ds : List (Key × D)}, Dks K mg F vs ds → Dks K mg F (vs.map fun kv => if kv.1 = k then (kv.1, v) else kv) (ds.map fun kv => if kv.1 = k then (kv.1, d) else kv)
  | _, _, .nil => .nil
  | _, _, .cons (k := j) g r => by
    rw [List.map_cons, List.map_cons]
    by_cases e : j = k
    · simp only [if_pos e]
      exact .cons h (Dks.rep h k r)
    · simp only [if_neg e]
      exact .cons g (Dks.rep h k r)
theorem Dks.app : ∀ {vs ws : List (Key × V)} {ds es : List (Key × D)}, Dks K mg F vs ds → Dks K mg F ws es → Dks K mg F (vs ++ ws) (ds ++ es)
  | _, _, _, _, .nil, s => s
  | _, _, _, _, .cons h r, s => .cons h (Dks.app r s)
theorem Dks.put {v : V} {d : D} (h : Dt K mg F v d) (k : Key) {vs : List (Key × V)} {ds : List (Key × D)} (r : Dks K mg F vs ds) : Dks K mg F (putK vs k v) (putD ds k d) := by
  unfold putK putD
  rw [r.any k]
  split
  · exact r.rep h k
  · exact r.app (.cons h .nil)
end
section
variable {X : Cx} {B : Bs} {e o i : Expr} {d do' di : TED} {p pos : Pos}
/-- {} as a dict that changes -/
@[simp] def dNewD : TED := fun _ μ Q => ∀ p, μ p = none → Q (.ref p) (sset μ p (.dct []))
/-- d[y] -/
@[simp] def dGetD (o i : TED) : TED := fun ρ μ Q => o ρ μ fun x μ1 => i ρ μ1 fun y μ2 => ∃ a kvs k d, x = .ref a ∧ μ2 a = some (.dct kvs) ∧ keyD y = some k ∧ valD kvs k = some d ∧ Q d μ2
/-- y in d, y not in d -/
@[simp] def dInD (neg : Bool) (i o : TED) : TED := fun ρ μ Q => i ρ μ fun y μ1 => o ρ μ1 fun x μ2 => ∃ a kvs k, x = .ref a ∧ μ2 a = some (.dct kvs) ∧ keyD y = some k ∧ Q (.bl (if neg then !(valD kvs k).isSome else (valD kvs k).isSome)) μ2
/-- d[y] = v -/
@[simp] def dPutD (d o i : TED) : TSD := fun E ρ μ => d ρ μ fun v μ1 => o ρ μ1 fun x μ2 => i ρ μ2 fun y μ3 => ∃ a kvs k, x = .ref a ∧ μ3 a = some (.dct kvs) ∧ keyD y = some k ∧ kvs.length < SZ ∧ E.nx ρ (sset μ3 a (.dct (putD kvs k v)))
end
end DL

namespace DL
open PySem PySem.Spec PyProof.Rows L2
abbrev txtD (kvs : List (List Nat × List Nat)) : List (Key × D) := kvs.map fun p => (.inr (S p.1), D.str p.2)
section
variable {X : Cx} {e o i : Expr} {d do' di : TED} {p pos : Pos}
@[simp] def dDctS (kvs : List (List Nat × List Nat)) : TED := dC (.dct (txtD kvs))
/-- d[y] of a dict that does not change -/
@[simp] def dGetF (o i : TED) : TED := fun ρ μ Q => o ρ μ fun x μ1 => i ρ μ1 fun y μ2 => ∃ kvs k d, x = .dct kvs ∧ keyD y = some k ∧ valD kvs k = some d ∧ Q d μ2
end
end DL

namespace DL
open PySem PySem.Spec PyProof.Rows L2
section
variable {X : Cx}
def rdNeNilT : RD2
  | .tup xs, .tup ys, μ, Q => ys = [] ∧ Q (.bl (!xs.isEmpty)) μ
  | _, _, _, _ => False
@[simp] theorem rdNeNilT_1 {xs : List D} {μ : Sto} {Q : DK} : rdNeNilT (.tup xs) (.tup []) μ Q = Q (.bl (!xs.isEmpty)) μ := by
  show (([] : List D) = [] ∧ _) = _
  simp
end
section
variable {X : Cx}
def rdAddN : RD2
  | .bl k, .int i, μ, Q => Q (.int (b2i k + i)) μ
  | x, y, μ, Q => rdAdd x y μ Q
@[simp] theorem rdAddN_1 {k : Bool} {i : Int} {μ : Sto} {Q : DK} : rdAddN (.bl k) (.int i) μ Q = Q (.int (b2i k + i)) μ := rfl
@[simp] theorem rdAddN_2 {i j : Int} {μ : Sto} {Q : DK} : rdAddN (.int i) (.int j) μ Q = Q (.int (i + j)) μ := rfl
@[simp] theorem rdAddN_3 {s t : List D} {μ : Sto} {Q : DK} : rdAddN (.tup s) (.tup t) μ Q = (s.length + t.length ≤ SZ ∧ Q (.tup (s ++ t)) μ) := rfl
@[simp] theorem rdAddN_4 {s t : List D} {μ : Sto} {Q : DK} : rdAddN (.lst s) (.lst t) μ Q = (s.length + t.length ≤ SZ ∧ Q (.lst (s ++ t)) μ) := rfl
def rdSubN : RD2
  | .bl k, .int i, μ, Q => Q (.int (b2i k - i)) μ
  | .int i, .bl k, μ, Q => Q (.int (i - b2i k)) μ
  | .int i, .int j, μ, Q => Q (.int (i - j)) μ
  | _, _, _, _ => False
@[simp] theorem rdSubN_1 {k : Bool} {i : Int} {μ : Sto} {Q : DK} : rdSubN (.bl k) (.int i) μ Q = Q (.int (b2i k - i)) μ := rfl
@[simp] theorem rdSubN_2 {k : Bool} {i : Int} {μ : Sto} {Q : DK} : rdSubN (.int i) (.bl k) μ Q = Q (.int (i - b2i k)) μ := rfl
@[simp] theorem rdSubN_3 {i j : Int} {μ : Sto} {Q : DK} : rdSubN (.int i) (.int j) μ Q = Q (.int (i - j)) μ := rfl
end
section
variable {K : PySem.W.Frag} {mg : Str → Option Value}
end
/-- str() of an int or a bool -/
def truD (b : Bool) : List Nat := if b then [84, 114, 117, 101] else [70, 97, 108, 115, 101]
def rdStrZ : RDn
  | [.int i], μ, Q => i.natAbs.log2 < 1920 ∧ Q (.str (toString i : Str).cps.toList) μ
  | [.bl b], μ, Q => Q (.str (truD b)) μ
  | _, _, _ => False
@[simp] theorem rdStrZ_1 {i : Int} {μ : Sto} {Q : DK} : rdStrZ [.int i] μ Q = (i.natAbs.log2 < 1920 ∧ Q (.str (toString i : Str).cps.toList) μ) := rfl
@[simp] theorem rdStrZ_2 {b : Bool} {μ : Sto} {Q : DK} : rdStrZ [.bl b] μ Q = Q (.str (truD b)) μ := rfl
/-- the promise that asks what never is -/
def noSp : DSp := fun _ _ _ _ => False
theorem Cal.nothing {P : Program} {w : World} {K : PySem.W.Frag} {mg : Str → Option Value} {base : Heap} {CX : CXT} {k : Nat} {x : Str} {f : Addr} (hm : mg x = some (.ref f)) (hk : PySem.W.keepIn K (.ref f) = true) : Cal P w K mg base CX k x noSp :=
  ⟨f, fun _ _ _ _ _ _ _ _ _ _ _ _ ⟨_, _, _, _, _, _, _, h, _⟩ => h.elim, hm, hk⟩
end DL

namespace DL
open PySem PySem.Spec PyProof.Rows L2
open PySem.W (Tup Datum DatumOrd minOf minD dataLt alike AlikeAll)
def keysD : List D → Option (List Key)
  | [] => some []
  | d :: ds => (keyD d).bind fun k => (keysD ds).map (k :: ·)
@[simp] theorem keysD_nil : keysD [] = some [] := rfl
@[simp] theorem keysD_cons (d : D) (ds : List D) : keysD (d :: ds) = (keyD d).bind fun k => (keysD ds).map (k :: ·) := rfl
def valT (kvs : List (List Key × D)) (k : List Key) : Option D := (kvs.find? fun kv => decide (kv.1 = k)).map (·.2)
def putT (kvs : List (List Key × D)) (k : List Key) (d : D) : List (List Key × D) := if kvs.any fun kv => decide (kv.1 = k) then kvs.map fun kv => if kv.1 = k then (kv.1, d) else kv else kvs ++ [(k, d)]
section
variable {K : PySem.W.Frag} {mg : Str → Option Value} {F H : Hp} {μ : Sto}
theorem dts_keys : ∀ {vs : List V} {ds : List D} {ks : List Key}, Dts K mg F vs ds → keysD ds = some ks → vs = ks.map kV
  | _, [], ks, .nil, e => by simp at e; subst e; rfl
  | _, d :: ds, ks, .cons h r, e => by
    rw [keysD_cons] at e
    cases hk : keyD d with
    | none => rw [hk] at e; cases e
    | some k =>
      rw [hk] at e
      cases hks : keysD ds with
      | none => rw [hks] at e; cases e
      | some ks' =>
        rw [hks] at e
        have e : some (k :: ks') = some ks := e
        cases e
        rw [List.map_cons, ← dts_keys r hks]
        congr 1
        cases d <;> first | (cases hk; done) | skip
        · cases hk; cases h; rfl
        · cases hk; cases h; rfl
def KvT (K : PySem.W.Frag) (mg : Str → Option Value) (F : Hp) (vs : List (List Key × V)) (ds : List (List Key × D)) : Prop := vs.map (·.1) = ds.map (·.1) ∧ Dts K mg F (vs.map (·.2)) (ds.map (·.2))
theorem KvT.cases' {v : List Key × V} {vs : List (List Key × V)} {d : List Key × D} {ds : List (List Key × D)} (h : KvT K mg F (v :: vs) (d :: ds)) : v.1 = d.1 ∧ Dt K mg F v.2 d.2 ∧ KvT K mg F vs ds := by
  obtain ⟨h1, h2⟩ := h
  rw [List.map_cons, List.map_cons] at h1 h2
  injection h1 with a b
  cases h2 with
  | cons c e => exact ⟨a, c, b, e⟩
theorem KvT.len {vs : List (List Key × V)} {ds : List (List Key × D)} (h : KvT K mg F vs ds) : vs.length = ds.length := by
  have := congrArg List.length h.1
  simpa using this
theorem KvT.val : ∀ {vs : List (List Key × V)} {ds : List (List Key × D)}, KvT K mg F vs ds → ∀ k d, valT ds k = some d → ∃ v, valV vs k = some v ∧ Dt K mg F v d
  | [], [], _, k, d, e => by cases e
  | [], _ :: _, h, _, _, _ => absurd h.len (by simp)
  | _ :: _, [], h, _, _, _ => absurd h.len (by simp)
  | (j, v) :: vs, (j', d0) :: ds, h, k, d, e => by
    obtain ⟨h1, h2, h3⟩ := h.cases'
    have h1 : j = j' := h1
    subst h1
    by_cases ej : j = k
    · subst ej
      have e1 : valT ((j, d0) :: ds) j = some d0 := by simp [valT]
      have e2 : valV ((j, v) :: vs) j = some v := by simp [valV]
      rw [e1] at e; cases e
      exact ⟨v, e2, h2⟩
    · have e1 : valT ((j, d0) :: ds) k = valT ds k := by simp [valT, ej]
      have e2 : valV ((j, v) :: vs) k = valV vs k := by simp [valV, ej]
      rw [e1] at e; rw [e2]
      exact KvT.val h3 k d e
theorem KvT.any : ∀ {vs : List (List Key × V)} {ds : List (List Key × D)}, KvT K mg F vs ds → ∀ k, (vs.any fun kv => decide (kv.1 = k)) = ds.any fun kv => decide (kv.1 = k)
  | [], [], _, k => rfl
  | [], _ :: _, h, _ => absurd h.len (by simp)
  | _ :: _, [], h, _ => absurd h.len (by simp)
  | (j, v) :: vs, (j', d0) :: ds, h, k => by
    obtain ⟨h1, h2, h3⟩ := h.cases'
    rw [List.any_cons, List.any_cons, KvT.any h3 k, h1]
theorem KvT.cons {k : List Key} {v : V} {d : D} {vs : List (List Key × V)} {ds : List (List Key × D)} (h : Dt K mg F v d) (r : KvT K mg F vs ds) : KvT K mg F ((k, v) :: vs) ((k, d) :: ds) :=
  ⟨by rw [List.map_cons, List.map_cons, r.1], .cons h r.2⟩
theorem KvT.rep {v : V} {d : D} (h : Dt K mg F v d) (k : List Key) : ∀ {vs : List (List Key × V)} {ds : List (List Key × D)}, KvT K mg F vs ds → KvT K mg F (vs.map fun kv => if kv.1 = k then (kv.1, v) else kv) (ds.map fun kv => if kv.1 = k then (kv.1, d) else kv)
  | [], [], r => r
  | [], _ :: _, h => absurd h.len (by simp)
  | _ :: _, [], h => absurd h.len (by simp)
  | (j, w) :: vs, (j', d0) :: ds, r => by
    obtain ⟨h1, h2, h3⟩ := r.cases'
    have h1 : j = j' := h1
    subst h1
    rw [List.map_cons, List.map_cons]
    by_cases e : j = k
    · simp only [if_pos e]
      exact .cons h (KvT.rep h k h3)
    · simp only [if_neg e]
      exact .cons h2 (KvT.rep h k h3)
theorem KvT.app : ∀ {vs ws : List (List Key × V)} {ds es : List (List Key × D)}, KvT K mg F vs ds → KvT K mg F ws es → KvT K mg F (vs ++ ws) (ds ++ es) := fun h g =>
  ⟨by rw [List.map_append, List.map_append, h.1, g.1], by rw [List.map_append, List.map_append]; exact h.2.append g.2⟩
theorem KvT.put {v : V} {d : D} (h : Dt K mg F v d) (k : List Key) {vs : List (List Key × V)} {ds : List (List Key × D)} (r : KvT K mg F vs ds) : KvT K mg F (putK vs k v) (putT ds k d) := by
  unfold putK putT
  rw [r.any k]
  split
  · exact r.rep h k
  · exact r.app (.cons h ⟨rfl, .nil⟩)
theorem KvT.mono {F' : Hp} (hF : ∀ a o, F a = some o → F' a = some o) {vs : List (List Key × V)} {ds : List (List Key × D)} (r : KvT K mg F vs ds) : KvT K mg F' vs ds := ⟨r.1, r.2.mono hF⟩
end
section
variable {X : Cx} {B : Bs} {e o : Expr} {d do' : TED} {p pos kpos : Pos} {es : List Expr} {t : TAD} {kx : Nat}
/-- {} whose keys will be tuples -/
@[simp] def dNewT : TED := fun _ μ Q => ∀ p, μ p = none → Q (.ref p) (sset μ p (.dtt []))
theorem de_newT : DE X (.Dict [] [] pos) dNewT := pe_dnewT.weaken fun σ H Q q => by
  obtain ⟨F, ρ, μ, Qd, R, hd, k⟩ := q
  intro p hp
  obtain ⟨hf, hm⟩ := R.ok.fresh hp
  obtain ⟨g1, g2⟩ := R.ok.layM hp (.dT []) (.dtt []) ⟨[], upd_same, rfl, .nil⟩
  exact k _ _ _ _ _ g2 g1 (.ref p) (hd p hm)
/-- d[(y, z)] -/
@[simp] def dGetT (o : TED) (t : TAD) : TED := fun ρ μ Q => o ρ μ fun x μ1 => t ρ μ1 fun ys μ2 => ∃ a kvs k d, x = .ref a ∧ μ2 a = some (.dtt kvs) ∧ keysD ys = some k ∧ ys.length ≤ SZ ∧ valT kvs k = some d ∧ Q d μ2
theorem de_getT (hu : X.A.units + 64 < cLine) (ho : DW X o do') (hi : DA X es t) (hs : NoSl (.Tuple es kx kpos) := by intro _ _; rfl) : DE X (.Subscript o (.Tuple es kx kpos) pos) (dGetT do' t) := (pe_dget (by omega) ho (pe_tup hi) hs).weaken fun σ H Q q => by
  obtain ⟨F, ρ, μ, Qd, R, hd, k⟩ := q
  refine ⟨F, ρ, μ, _, R, hd, fun u F1 μ1 H1 du e1 o1 w1 q1 => ?_⟩
  refine ⟨F1, ρ, μ1, _, R.ext e1 o1, q1, fun zs F2 μ2 H2 dz e2 o2 w2 q2 => ?_⟩
  obtain ⟨a, kvs, ks, d, rfl, hx, hk, hl, hv, q⟩ := q2
  cases w1.ref
  refine ⟨by rw [w2.length, sizeLine_eq]; exact hl, fun p hp => ?_⟩
  obtain ⟨vs, ha, ra⟩ := o2.sto _ _ hx
  have ra : KvT X.K X.mg F2 vs kvs := ra
  obtain ⟨v, hv1, hv2⟩ := ra.val ks d hv
  obtain ⟨g1, g2⟩ := o2.layN hp (.tup zs)
  have hap : a ≠ p := fun z => by subst z; rw [ha] at hp; cases hp
  refine ⟨a, v, rfl, ?_, k _ F2 μ2 _ _ (e1.trans (e2.trans g2)) g1 hv2 q⟩
  rw [← hv1]
  refine DGet.t (by rw [upd_ne hap]; exact ha) ?_
  rw [upd_same, dts_keys w2 hk]
/-- d[(y, z)] = v -/
@[simp] def dPutT (d o : TED) (t : TAD) : TSD := fun E ρ μ => d ρ μ fun v μ1 => o ρ μ1 fun x μ2 => t ρ μ2 fun ys μ3 => ∃ a kvs k, x = .ref a ∧ μ3 a = some (.dtt kvs) ∧ keysD ys = some k ∧ ys.length ≤ SZ ∧ kvs.length < SZ ∧ E.nx ρ (sset μ3 a (.dtt (putT kvs k v)))
theorem ds_putT {spos : Pos} (he : DE X e d) (ho : DW X o do') (hi : DA X es t) (hu : X.A.units + 64 < cLine) (hs : swapsWith e (some (.Subscript o (.Tuple es kx kpos) spos)) pos.line X.env = pure false := by rfl) :
    DSt X B (.Assign [.Subscript o (.Tuple es kx kpos) spos] e pos) (dPutT d do' t) := (ps_dput (by omega) ho (pe_tup hi) he hs).weaken fun E σ H h => by
  obtain ⟨F, ρ, μ, Dd, R, hd, kn, kb, kc, kr⟩ := h
  refine ⟨F, ρ, μ, _, R.rel, hd, fun v F1 μ1 H1 dv e1 o1 w1 q1 => ?_⟩
  refine ⟨F1, ρ, μ1, _, R.rel.ext e1 o1, q1, fun u F2 μ2 H2 du e2 o2 w2 q2 => ?_⟩
  refine ⟨F2, ρ, μ2, _, R.rel.ext (e1.trans e2) o2, q2, fun zs F3 μ3 H3 dz e3 o3 w3 q3 => ?_⟩
  obtain ⟨a, kvs, ks, rfl, hx, hk, hl, hkl, q⟩ := q3
  cases w2.ref
  refine ⟨by rw [w3.length, sizeLine_eq]; exact hl, fun p hp => ?_⟩
  obtain ⟨vs, ha, ra⟩ := o3.sto _ _ hx
  have ra : KvT X.K X.mg F3 vs kvs := ra
  obtain ⟨n1, n2⟩ := o3.layN hp (.tup zs)
  have hap : a ≠ p := fun z => by subst z; rw [ha] at hp; cases hp
  have e13 := (e1.trans (e2.trans e3)).trans n2
  have put := ra.put ((w1.mono e2.mono).mono e3.mono) ks
  obtain ⟨g1, g2⟩ := n1.write hx (.dT (putK vs ks v)) (.dtt (putT kvs ks dv)) ⟨_, upd_same, put.1, put.2⟩
  refine ⟨a, _, rfl, ?_, kn F3 ρ _ σ _ (e13.trans g2).mono (R.step (e13.trans g2) g1) q⟩
  refine DPut.t (by rw [upd_ne hap]; exact ha) ?_ (by rw [ra.len, sizeLine_eq]; exact hkl)
  rw [upd_same, dts_keys w3 hk]
end
section
variable {K : PySem.W.Frag} {mg : Str → Option Value}
def rMinD (K : PySem.W.Frag) : List V → Hp → VK → Prop := fun vs H Q => ∃ (a : Addr) (ws : List V) (x : PyData) (xs : List PyData), vs = [.ref a] ∧ SqL K H a ws ∧ DpAll K H ws (x :: xs) ∧ AlikeAll (x :: xs) ∧ PyData.depthAll (x :: xs) ≤ 60 ∧
  ∀ (i : Nat) (v : V), ws[i]? = some v → (x :: xs)[i]? = some (minD x xs) → Q v H
theorem vals_at : ∀ {ws : List V} {us : List Value}, Vals ws us → ∀ (i : Nat) (u : Value), us[i]? = some u → ∃ v, ws[i]? = some v ∧ RelV v u
  | _, _, .nil, i, u, e => by simp at e
  | _, _, .cons h r, 0, u, e => by simp at e; subst e; exact ⟨_, rfl, h⟩
  | _, _, .cons h r, i + 1, u, e => by
    obtain ⟨v, h1, h2⟩ := vals_at r i u (by simpa using e)
    exact ⟨v, by simpa using h1, h2⟩
theorem call_minD {X : Cx} (hc : X.calm = true) (hu : X.A.units + 64 < cLine) : CallR X (.builtin "min") (rMinD X.K) := by
  intro pins s σ H vs us Q I r h
  obtain ⟨a, ws, x, xs, rfl, hs, hd, hal, hdp, q⟩ := h
  obtain ⟨its, rv, hl, _⟩ := I.list hs
  rw [Vals.ref1 r]
  obtain ⟨as, hr⟩ := Dp.readsAll I (x :: xs) _ its hd rv
  have hr' : PySem.ReadsAll s.heap its.toArray.toList (x :: xs) as := by simpa using hr
  have hn : its.toArray.size = xs.length + 1 := PySem.W.readsAll_len hr'
  refine PySem.call_min_walkH (PySem.W.iter_listW (A := X.A.in1) (I.ok.hd hc) hl.isList fun s₂ e W st hfp hw hk => ?_)
  refine ⟨_, _, _, _, _, _, _, s.heap, _, rfl, W, st, hfp, by omega, hw, hk, PySem.W.cmpIn_lt (A := X.A.in1) hr' hal (by show X.A.units + 1 + _ < _; omega), fun v s' hP m => ?_⟩
  obtain ⟨h', tk, rfl, hk'⟩ := PySem.W.moved_old e rfl m
  have e1 : its.toArray.size - 1 = xs.length := by omega
  obtain ⟨e0, e2⟩ := PySem.W.argBest_fold dataLt PyData.none x xs xs.length (Nat.le_refl _)
  rw [List.take_length] at e2
  rw [e1] at hP
  generalize argBest (fun i j => dataLt ((x :: xs).getD i PyData.none) ((x :: xs).getD j PyData.none)) xs.length = m0 at hP e0 e2
  have hP : its[m0]? = some v := by simpa using hP
  obtain ⟨u, hu1, hu2⟩ := vals_at rv m0 v hP
  refine ⟨u, H, I.kept hk', hu2, q m0 u hu1 ?_⟩
  have hlt : m0 < (x :: xs).length := by rw [List.length_cons]; omega
  unfold minD
  rw [← e2, List.getD_eq_getElem?_getD, List.getElem?_eq_getElem hlt]
  rfl
/-- data of one form, as a list for min -/
def alikeD (xs : List D) : Prop := D.flats xs = true ∧ AlikeAll (D.pys xs) ∧ PyData.depthAll (D.pys xs) ≤ 60
def rdMinD : RDn
  | [.lst (x :: xs)], μ, Q => alikeD (x :: xs) ∧ ∀ d, d ∈ x :: xs → d.py = minD x.py (D.pys xs) → Q d μ
  | _, _, _ => False
@[simp] theorem rdMinD_1 : rdMinD [.lst (x0 :: xs0)] μ0 Q0 = (alikeD (x0 :: xs0) ∧ ∀ d, d ∈ x0 :: xs0 → d.py = minD x0.py (D.pys xs0) → Q0 d μ0) := rfl
theorem pys_map : ∀ xs : List D, D.pys xs = xs.map D.py
  | [] => rfl
  | x :: xs => by rw [D.pys, pys_map xs]; rfl
theorem cs_minD : CallS K mg (rMinD K) rdMinD := by
  intro F μ H vs ds Qd Q o w h k
  unfold rdMinD at h
  split at h
  · rename_i x xs
    obtain ⟨v, rfl, wk⟩ := w.one
    obtain ⟨⟨f1, f2, f3⟩, h⟩ := h
    obtain ⟨a, us, rfl, ha, ra⟩ := wk.lst o
    refine ⟨a, us, x.py, D.pys xs, rfl, .inl (.inl ha), Dts.dp o.sub ra f1, f2, f3, fun i v hi hm => ?_⟩
    obtain ⟨d, hd1, hd2⟩ := ra.getV hi
    have e : d.py = minD x.py (D.pys xs) := by
      have : (D.pys (x :: xs))[i]? = some d.py := by rw [pys_map, List.getElem?_map, hd1]; rfl
      have hm : (D.pys (x :: xs))[i]? = some (minD x.py (D.pys xs)) := hm
      rw [this] at hm
      exact Option.some.inj hm
    exact fin0 o k hd2 (h d (List.mem_of_getElem? hd1) e)
  · exact h.elim
def rdLtD : RD2 := fun x y μ Q => x.flat = true ∧ y.flat = true ∧ alike x.py y.py = true ∧ x.py ≠ .none ∧ min x.py.depth y.py.depth ≤ 60 ∧ Q (.bl (dataLt x.py y.py)) μ
end
class DatD (α : Type) [DecidableEq α] [DatumOrd α] where
  of : α → D
  flat : ∀ a, (of a).flat = true
  py : ∀ a, (of a).py = Datum.toD a
theorem flats_map {α : Type} [DecidableEq α] [DatumOrd α] [DatD α] : ∀ l : List α, D.flats (l.map DatD.of) = true
  | [] => rfl
  | a :: l => by rw [List.map_cons, D.flats, DatD.flat a, flats_map l]; rfl
theorem pys_of {α : Type} [DecidableEq α] [DatumOrd α] [DatD α] : ∀ l : List α, D.pys (l.map DatD.of) = l.map Datum.toD
  | [] => rfl
  | a :: l => by rw [List.map_cons, D.pys, DatD.py a, pys_of l]; rfl
instance : DatD Int := ⟨D.int, fun _ => rfl, fun _ => rfl⟩
instance {α β : Type} [DecidableEq α] [DatumOrd α] [DatD α] [DecidableEq β] [DatumOrd β] [DatD β] : DatD (α × β) :=
  ⟨fun p => .tup [DatD.of p.1, DatD.of p.2], fun p => by simp [D.flat, D.flats, DatD.flat], fun p => by simp [D.py, D.pys, DatD.py]; rfl⟩
instance {α : Type} [DecidableEq α] [DatumOrd α] [DatD α] : DatD (Tup α) :=
  ⟨fun p => .tup (p.items.map DatD.of), fun p => by simp only [D.flat]; exact flats_map _, fun p => by simp only [D.py]; rw [pys_of]; rfl⟩
theorem alikeD_of {α : Type} [DecidableEq α] [DatumOrd α] [DatD α] (l : List α) (h : Datum.depth α ≤ 60) : alikeD (l.map DatD.of) :=
  ⟨flats_map l, by rw [pys_of]; exact PySem.W.alikeAll_datum l, by rw [pys_of]; exact Nat.le_trans (PySem.W.depthAll_map l) h⟩
theorem of_inj {α : Type} [DecidableEq α] [DatumOrd α] [DatD α] {a b : α} (h : (DatD.of a : D).py = (DatD.of b : D).py) : a = b := by
  rw [DatD.py, DatD.py] at h
  have h1 := Datum.eqv a b
  have h2 := Datum.eqv b b
  rw [h, h2] at h1
  simpa using h1.symm
/-- min of a row of typed values -/
theorem rdMinD_of {α : Type} [DecidableEq α] [DatumOrd α] [DatD α] {a : α} {l : List α} {μ : Sto} {Q : DK} (h : Datum.depth α ≤ 60) (q : Q (DatD.of (minOf a l)) μ) : rdMinD [.lst ((a :: l).map DatD.of)] μ Q := by
  rw [List.map_cons, rdMinD_1]
  refine ⟨alikeD_of (a :: l) h, fun d hd e => ?_⟩
  rw [DatD.py, pys_of, PySem.W.minD_map, ← DatD.py] at e
  have : ∃ b : α, d = DatD.of b := by
    rcases List.mem_cons.mp hd with rfl | hd
    · exact ⟨a, rfl⟩
    · obtain ⟨b, _, rfl⟩ := List.mem_map.mp hd
      exact ⟨b, rfl⟩
  obtain ⟨b, rfl⟩ := this
  rw [of_inj e]
  exact q
end DL

namespace DL
open PySem PySem.Spec PyProof.Rows L2
open PySem.W (Tup Datum DatumOrd minOf minD dataLt alike AlikeAll listLt)
def hasB (x i : Nat) : Bool := decide (x / 2 ^ i % 2 = 1)
def mbN (n x : Nat) : List Nat := (List.range n).filter (hasB x)
theorem mbN_mem {n x i : Nat} : i ∈ mbN n x ↔ i < n ∧ x / 2 ^ i % 2 = 1 := by simp [mbN, hasB]
theorem mbN_nodup (n x : Nat) : (mbN n x).Nodup := (List.nodup_range).filter _
theorem hasB_le {x i : Nat} (h : x / 2 ^ i % 2 = 1) : 2 ^ i ≤ x := by
  rcases Nat.lt_or_ge x (2 ^ i) with h1 | h1
  · rw [Nat.div_eq_of_lt h1] at h; cases h
  · exact h1
theorem hasB_sub {x i j : Nat} (h : x / 2 ^ i % 2 = 1) : (x - 2 ^ i) / 2 ^ j % 2 = if j = i then 0 else x / 2 ^ j % 2 := by
  have hle := hasB_le h
  have pi : 0 < 2 ^ i := Nat.two_pow_pos i
  rcases Nat.lt_trichotomy j i with hj | hj | hj
  · rw [if_neg (by omega)]
    obtain ⟨k, rfl⟩ : ∃ k, i = j + 1 + k := ⟨i - j - 1, by omega⟩
    have e : 2 ^ (j + 1 + k) = 2 ^ j * (2 * 2 ^ k) := by rw [Nat.pow_add, Nat.pow_succ, Nat.mul_assoc]
    rw [e, Nat.sub_mul_div]
    have : 2 * 2 ^ k ≤ x / 2 ^ j := (Nat.le_div_iff_mul_le (Nat.two_pow_pos j)).mpr (by rw [Nat.mul_comm, ← e]; exact hle)
    omega
  · subst hj
    rw [if_pos rfl]
    have : (x - 2 ^ j) / 2 ^ j = x / 2 ^ j - 1 := by
      have := Nat.sub_mul_div x (2 ^ j) 1
      rwa [Nat.mul_one] at this
    rw [this]; omega
  · rw [if_neg (by omega)]
    obtain ⟨k, rfl⟩ : ∃ k, j = i + 1 + k := ⟨j - i - 1, by omega⟩
    rw [Nat.pow_add, ← Nat.div_div_eq_div_mul, ← Nat.div_div_eq_div_mul]
    congr 2
    rw [Nat.pow_succ, ← Nat.div_div_eq_div_mul, ← Nat.div_div_eq_div_mul]
    have : (x - 2 ^ i) / 2 ^ i = x / 2 ^ i - 1 := by
      have := Nat.sub_mul_div x (2 ^ i) 1
      rwa [Nat.mul_one] at this
    rw [this]
    generalize x / 2 ^ i = z at h
    omega
theorem mbN_erase {n x i : Nat} (h : i ∈ mbN n x) : (mbN n x).erase i = mbN n (x - 2 ^ i) := by
  rw [(mbN_nodup n x).erase_eq_filter]
  unfold mbN
  rw [List.filter_filter]
  refine List.filter_congr fun j hj => ?_
  have hi := (mbN_mem.mp h).2
  unfold hasB
  rw [hasB_sub hi]
  by_cases e : j = i
  · subst e; simp
  · rw [if_neg e]; simp [e]
theorem mbN_zero (n : Nat) : mbN n 0 = [] := by simp [mbN, hasB]
theorem hasB_full {n i : Nat} (h : i < n) : (2 ^ n - 1) / 2 ^ i % 2 = 1 := by
  obtain ⟨k, rfl⟩ : ∃ k, n = i + 1 + k := ⟨n - i - 1, by omega⟩
  have e : 2 ^ (i + 1 + k) = 2 ^ i * (2 * 2 ^ k) := by rw [Nat.pow_add, Nat.pow_succ, Nat.mul_assoc]
  have pk : 0 < 2 ^ k := Nat.two_pow_pos k
  have p : 0 < 2 ^ i := Nat.two_pow_pos i
  have : (2 ^ i * (2 * 2 ^ k) - 1) / 2 ^ i = 2 * 2 ^ k - 1 := by
    have h1 : 2 ^ i * (2 * 2 ^ k) - 1 = (2 ^ i - 1) + 2 ^ i * (2 * 2 ^ k - 1) := by
      rw [Nat.mul_sub, Nat.mul_one]
      have : 2 ^ i * 1 ≤ 2 ^ i * (2 * 2 ^ k) := Nat.mul_le_mul_left _ (by omega)
      omega
    rw [h1, Nat.add_mul_div_left _ _ p, Nat.div_eq_of_lt (by omega)]; omega
  rw [e, this]; omega
theorem mbN_full (n : Nat) : mbN n (2 ^ n - 1) = List.range n := by
  unfold mbN
  rw [List.filter_eq_self]
  intro i hi
  unfold hasB
  rw [hasB_full (List.mem_range.mp hi)]; rfl
theorem mbN_less {n m x : Nat} (hm : m ≤ n) (hx : x < 2 ^ m) : mbN n x = mbN m x := by
  obtain ⟨k, rfl⟩ := Nat.exists_eq_add_of_le hm
  unfold mbN
  rw [List.range_add, List.filter_append]
  have : List.filter (hasB x) (List.map (fun y => m + y) (List.range k)) = [] := by
    rw [List.filter_eq_nil_iff]
    intro i hi
    obtain ⟨y, _, rfl⟩ := List.mem_map.mp hi
    unfold hasB
    rw [Nat.div_eq_of_lt (Nat.lt_of_lt_of_le hx (Nat.pow_le_pow_right (by omega) (by omega)))]
    simp
  rw [this, List.append_nil]
theorem mbN_nil {n x : Nat} (hx : x < 2 ^ n) (h : mbN n x = []) : x = 0 := by
  induction n generalizing x with
  | zero => simp at hx; omega
  | succ n ih =>
    rcases Nat.lt_or_ge x (2 ^ n) with h1 | h1
    · rw [mbN_less (Nat.le_succ n) h1] at h
      exact ih h1 h
    · have : n ∈ mbN (n + 1) x := mbN_mem.mpr ⟨by omega, by
        have hp := Nat.two_pow_pos n
        have h2 : x < 2 * 2 ^ n := by rw [Nat.pow_succ] at hx; omega
        have : x / 2 ^ n = 1 := by
          have a : 1 ≤ x / 2 ^ n := (Nat.le_div_iff_mul_le hp).mpr (by omega)
          have b : x / 2 ^ n < 2 := (Nat.div_lt_iff_lt_mul hp).mpr (by omega)
          omega
        rw [this]⟩
      rw [h] at this; cases this
def minN : List Nat → Nat
  | [] => 0
  | x :: xs => xs.foldl min x
theorem foldl_min (xs : List Nat) : ∀ x, xs.foldl min x ∈ x :: xs ∧ ∀ y ∈ x :: xs, xs.foldl min x ≤ y := by
  induction xs with
  | nil => intro x; simp
  | cons a xs ih =>
    intro x
    obtain ⟨h1, h2⟩ := ih (min x a)
    rw [List.foldl_cons]
    have h3 := h2 (min x a) (by simp)
    constructor
    · rcases List.mem_cons.mp h1 with h | h
      · rw [h]
        rcases Nat.le_total x a with q | q
        · rw [Nat.min_eq_left q]; simp
        · rw [Nat.min_eq_right q]; simp
      · simp [h]
    · intro y hy
      rcases List.mem_cons.mp hy with rfl | hy
      · omega
      · rcases List.mem_cons.mp hy with rfl | hy
        · omega
        · exact h2 y (by simp [hy])
theorem minN_mem {l : List Nat} (h : l ≠ []) : minN l ∈ l := by
  cases l with
  | nil => exact absurd rfl h
  | cons x xs => exact (foldl_min xs x).1
theorem minN_le {l : List Nat} {y : Nat} (h : y ∈ l) : minN l ≤ y := by
  cases l with
  | nil => cases h
  | cons x xs => exact (foldl_min xs x).2 y h
theorem minN_of {l : List Nat} {m : Nat} (h1 : m ∈ l) (h2 : ∀ y ∈ l, m ≤ y) : minN l = m := Nat.le_antisymm (minN_le h1) (h2 _ (minN_mem (List.ne_nil_of_mem h1)))
section
variable (c : Nat → Nat → Nat)
/-- the price of a row below a sheet -/
def pc : Nat → List Nat → Nat
  | _, [] => 0
  | p, a :: r => c p a + pc a r
def Rr : Nat → Nat → List Nat → Nat
  | 0, _, _ => 0
  | k + 1, p, T => minN (T.map fun i => c p i + Rr k i (T.erase i))
def RR (p : Nat) (T : List Nat) : Nat := Rr c T.length p T
/-- the price of i first -/
def via (p i : Nat) (T : List Nat) : Nat := c p i + RR c i (T.erase i)
end
section
variable {c : Nat → Nat → Nat}
theorem RR_step {p : Nat} {T : List Nat} (h : T ≠ []) : RR c p T = minN (T.map fun i => via c p i T) := by
  have hl : 0 < T.length := List.length_pos_iff.mpr h
  obtain ⟨k, hk⟩ : ∃ k, T.length = k + 1 := ⟨T.length - 1, by omega⟩
  unfold RR
  rw [hk, Rr]
  congr 1
  refine List.map_congr_left fun i hi => ?_
  unfold via RR
  rw [List.length_erase_of_mem hi, hk]; rfl
theorem RR_le : ∀ (k : Nat) (p : Nat) (T o : List Nat), T.length = k → o.Perm T → RR c p T ≤ pc c p o
  | 0, p, T, o, hk, ho => by
    have : T = [] := List.eq_nil_of_length_eq_zero hk
    subst this; exact Nat.zero_le _
  | k + 1, p, T, o, hk, ho => by
    have hT : T ≠ [] := fun e => by subst e; cases hk
    cases o with
    | nil => have := ho.length_eq; simp at this; omega
    | cons i r =>
      have hi : i ∈ T := ho.mem_iff.mp (by simp)
      have hr : r.Perm (T.erase i) := List.Perm.cons_inv (ho.trans (List.perm_cons_erase hi))
      have h1 := RR_le k i (T.erase i) r (by rw [List.length_erase_of_mem hi]; omega) hr
      rw [RR_step hT]
      have h2 : minN (T.map fun i => via c p i T) ≤ via c p i T := minN_le (List.mem_map.mpr ⟨i, hi, rfl⟩)
      unfold via at h2
      show _ ≤ c p i + pc c i r
      unfold via
      omega
end
/-- the order of rows: the first difference, else the shorter -/
def lle : List Nat → List Nat → Bool
  | [], _ => true
  | _ :: _, [] => false
  | a :: r, b :: s => decide (a < b) || (decide (a = b) && lle r s)
theorem lle_antisymm : ∀ {a b : List Nat}, lle a b = true → lle b a = true → a = b
  | [], [], _, _ => rfl
  | [], _ :: _, _, h => by cases h
  | _ :: _, [], h, _ => by cases h
  | x :: a, y :: b, h1, h2 => by
    simp [lle] at h1 h2
    rcases h1 with h1 | ⟨e, h1⟩ <;> rcases h2 with h2 | ⟨e2, h2⟩
    · omega
    · omega
    · omega
    · subst e; rw [lle_antisymm h1 h2]
theorem lle_total : ∀ a b : List Nat, lle a b = true ∨ lle b a = true
  | [], _ => .inl rfl
  | _ :: _, [] => .inr rfl
  | x :: a, y :: b => by
    simp [lle]
    rcases Nat.lt_trichotomy x y with h | h | h
    · exact .inl (.inl h)
    · subst h; simp; exact lle_total a b
    · exact .inr (.inl h)
theorem lle_trans : ∀ {a b d : List Nat}, lle a b = true → lle b d = true → lle a d = true
  | [], _, _, _, _ => rfl
  | _ :: _, [], _, h, _ => by cases h
  | _ :: _, _ :: _, [], _, h => by cases h
  | x :: a, y :: b, z :: d, h1, h2 => by
    simp [lle] at h1 h2 ⊢
    rcases h1 with h1 | ⟨e, h1⟩ <;> rcases h2 with h2 | ⟨e2, h2⟩
    · exact .inl (by omega)
    · exact .inl (by omega)
    · exact .inl (by omega)
    · exact .inr ⟨by omega, lle_trans h1 h2⟩
theorem listLt_lle : ∀ a b : List Nat, listLt (a.map fun n : Nat => (n : Int)) (b.map fun n : Nat => (n : Int)) = !lle b a
  | [], [] => rfl
  | [], _ :: _ => rfl
  | _ :: _, [] => rfl
  | x :: a, y :: b => by
    rw [List.map_cons, List.map_cons, listLt]
    by_cases h : x = y
    · subst h
      rw [if_pos rfl, listLt_lle a b]
      simp [lle]
    · rw [if_neg (by omega)]
      show decide ((x : Int) < y) = _
      simp [lle, Ne.symm h, h]
      rw [Bool.eq_iff_iff]; simp; omega
/-- (price, order) before another one, or the same -/
def ple (p q : Nat × List Nat) : Prop := p.1 < q.1 ∨ (p.1 = q.1 ∧ lle p.2 q.2 = true)
instance (p q : Nat × List Nat) : Decidable (ple p q) := by unfold ple; infer_instance
theorem ple_antisymm {p q : Nat × List Nat} (h : ple p q) (g : ple q p) : p = q := by
  unfold ple at h g
  rcases h with h | ⟨e, h⟩ <;> rcases g with g | ⟨e2, g⟩
  · omega
  · omega
  · omega
  · exact Prod.ext e (lle_antisymm h g)
theorem ple_total (p q : Nat × List Nat) : ple p q ∨ ple q p := by
  unfold ple
  have := lle_total p.2 q.2
  rcases Nat.lt_trichotomy p.1 q.1 with h | h | h
  · exact .inl (.inl h)
  · rcases this with t | t
    · exact .inl (.inr ⟨h, t⟩)
    · exact .inr (.inr ⟨h.symm, t⟩)
  · exact .inr (.inl h)
theorem ple_trans {p q r : Nat × List Nat} (h : ple p q) (g : ple q r) : ple p r := by
  unfold ple at *
  rcases h with h | ⟨e, h⟩ <;> rcases g with g | ⟨e2, g⟩
  · exact .inl (by omega)
  · exact .inl (by omega)
  · exact .inl (by omega)
  · exact .inr ⟨by omega, lle_trans h g⟩
/-- an order of least price, the smallest one -/
inductive Bst (c : Nat → Nat → Nat) : Nat → List Nat → List Nat → Prop
  | nil (p : Nat) : Bst c p [] []
  | cons {p i : Nat} {T r : List Nat} : i ∈ T → (∀ j ∈ T, via c p i T < via c p j T ∨ (via c p i T = via c p j T ∧ i ≤ j)) → Bst c i (T.erase i) r → Bst c p T (i :: r)
theorem Bst.prop {c : Nat → Nat → Nat} {p : Nat} {T o : List Nat} (h : Bst c p T o) : o.Perm T ∧ pc c p o = RR c p T ∧ ∀ o', o'.Perm T → ple (pc c p o, o) (pc c p o', o') := by
  induction h with
  | nil p =>
    refine ⟨.refl _, rfl, fun o' ho => ?_⟩
    have : o' = [] := ho.eq_nil
    subst this
    exact .inr ⟨rfl, rfl⟩
  | @cons p i T r hi hm hb ih =>
    obtain ⟨i1, i2, i3⟩ := ih
    have hT : T ≠ [] := List.ne_nil_of_mem hi
    have hp : (i :: r).Perm T := (i1.cons i).trans (List.perm_cons_erase hi).symm
    have hv : pc c p (i :: r) = via c p i T := by show c p i + pc c i r = _; rw [i2]; rfl
    refine ⟨hp, ?_, fun o' ho => ?_⟩
    · rw [hv, RR_step hT]
      refine (minN_of (m := via c p i T) (List.mem_map.mpr ⟨i, hi, rfl⟩) fun y hy => ?_).symm
      obtain ⟨j, hj, rfl⟩ := List.mem_map.mp hy
      have := hm j hj
      omega
    · cases o' with
      | nil => have := ho.length_eq; simp at this; exact absurd (List.eq_nil_of_length_eq_zero this.symm) hT
      | cons j r' =>
        have hj : j ∈ T := ho.mem_iff.mp (by simp)
        have hr : r'.Perm (T.erase j) := List.Perm.cons_inv (ho.trans (List.perm_cons_erase hj))
        have h1 := RR_le (c := c) _ j (T.erase j) r' rfl hr
        have h2 := hm j hj
        have h3 : via c p j T ≤ pc c p (j :: r') := by show c p j + _ ≤ c p j + _; omega
        unfold ple
        show pc c p (i :: r) < pc c p (j :: r') ∨ (pc c p (i :: r) = pc c p (j :: r') ∧ lle (i :: r) (j :: r') = true)
        by_cases e : i = j
        · subst e
          have := i3 r' hr
          unfold ple at this
          have q1 : pc c p (i :: r) = c p i + pc c i r := rfl
          have q2 : pc c p (i :: r') = c p i + pc c i r' := rfl
          have this : pc c i r < pc c i r' ∨ (pc c i r = pc c i r' ∧ lle r r' = true) := this
          rcases this with q | ⟨q, q'⟩
          · exact .inl (by omega)
          · exact .inr ⟨by omega, by simp [lle, q']⟩
        · rcases Nat.lt_or_ge (pc c p (i :: r)) (pc c p (j :: r')) with q | q
          · exact .inl q
          · refine .inr ⟨by omega, ?_⟩
            have : i < j := by omega
            simp [lle, this]
theorem ex_least {α : Type} (le : α → α → Prop) (tot : ∀ p q, le p q ∨ le q p) (tr : ∀ p q r, le p q → le q r → le p r) : ∀ l : List α, l ≠ [] → ∃ m ∈ l, ∀ y ∈ l, le m y
  | [], h => absurd rfl h
  | [a], _ => ⟨a, by simp, fun y hy => by rw [List.mem_singleton.mp hy]; exact (tot a a).elim id id⟩
  | a :: b :: l, _ => by
    obtain ⟨m, hm, h⟩ := ex_least le tot tr (b :: l) (List.cons_ne_nil _ _)
    rcases tot a m with q | q
    · refine ⟨a, by simp, fun y hy => ?_⟩
      rcases List.mem_cons.mp hy with rfl | hy
      · exact (tot y y).elim id id
      · exact tr _ _ _ q (h y hy)
    · refine ⟨m, List.mem_cons_of_mem _ hm, fun y hy => ?_⟩
      rcases List.mem_cons.mp hy with rfl | hy
      · exact q
      · exact h y hy
theorem Bst.ex (c : Nat → Nat → Nat) : ∀ (k p : Nat) (T : List Nat), T.length = k → ∃ o, Bst c p T o
  | 0, p, T, h => by
    have : T = [] := List.eq_nil_of_length_eq_zero h
    subst this; exact ⟨[], .nil p⟩
  | k + 1, p, T, h => by
    obtain ⟨i, hi, hm⟩ := ex_least (fun i j => via c p i T < via c p j T ∨ (via c p i T = via c p j T ∧ i ≤ j)) (fun i j => by omega) (fun i j l => by omega) T (fun e => by subst e; cases h)
    obtain ⟨r, hr⟩ := Bst.ex c k i (T.erase i) (by rw [List.length_erase_of_mem hi]; omega)
    exact ⟨i :: r, .cons hi hm hr⟩
theorem Bst.uniq {c : Nat → Nat → Nat} {p : Nat} {T o : List Nat} (h : Bst c p T o) : ∀ {o'}, Bst c p T o' → o = o' := by
  induction h with
  | nil p =>
    intro o' h'
    cases h' with
    | nil => rfl
    | cons hi _ _ => cases hi
  | @cons p i T r hi hm _ ih =>
    intro o' h'
    cases h' with
    | nil => cases hi
    | @cons _ i' _ r' hi' hm' h'' =>
      have h1 := hm _ hi'
      have h2 := hm' _ hi
      have e : i = i' := by omega
      subst e
      rw [ih h'']
/-- the best order of the others -/
noncomputable def bo (c : Nat → Nat → Nat) (p : Nat) (T : List Nat) : List Nat := Classical.choose (Bst.ex c T.length p T rfl)
theorem bo_bst (c : Nat → Nat → Nat) (p : Nat) (T : List Nat) : Bst c p T (bo c p T) := Classical.choose_spec (Bst.ex c T.length p T rfl)
theorem Bst.bo {c : Nat → Nat → Nat} {p : Nat} {T o : List Nat} (h : Bst c p T o) : o = DL.bo c p T := h.uniq (bo_bst c p T)
abbrev cN (ws : List (List Nat)) (i j : Nat) : Nat := cst (ws.getD i []) (ws.getD j [])
/-- the other sheets -/
abbrev oth (n p : Nat) : List Nat := (List.range n).erase p
/-- the price of an order -/
def pO (ws : List (List Nat)) : List Nat → Nat
  | [] => 0
  | p :: r => (ws.getD p []).length + pc (cN ws) p r
theorem Gs_pc (ws : List (List Nat)) : ∀ (r : List Nat) (p : Nat), Gs (ws.getD p []) (rowO ws r) = pc (cN ws) p r
  | [], _ => rfl
  | a :: r, p => by
    show cst _ _ + Gs _ _ = cst _ _ + pc _ _ _
    rw [Gs_pc ws r a]
theorem fewS_pO (ws : List (List Nat)) (o : List Nat) : fewS (rowO ws o) = (pO ws o : Nat) := by
  cases o with
  | nil => rfl
  | cons p r =>
    show fewS (ws.getD p [] :: rowO ws r) = _
    rw [fewS_cons, Gs_pc]
    simp [pO]
/-- the best order that begins with p -/
noncomputable def bA (ws : List (List Nat)) (p : Nat) : List Nat := p :: bo (cN ws) p (oth ws.length p)
theorem bA_perm {ws : List (List Nat)} {p : Nat} (hp : p < ws.length) : (bA ws p).Perm (List.range ws.length) :=
  ((bo_bst _ _ _).prop.1.cons p).trans (List.perm_cons_erase (List.mem_range.mpr hp)).symm
theorem bA_least {ws : List (List Nat)} {p : Nat} (hp : p < ws.length) {r : List Nat} (h : (p :: r).Perm (List.range ws.length)) : ple (pO ws (bA ws p), bA ws p) (pO ws (p :: r), p :: r) := by
  have hr : r.Perm (oth ws.length p) := List.Perm.cons_inv (h.trans (List.perm_cons_erase (List.mem_range.mpr hp)))
  have h1 := (bo_bst (cN ws) p (oth ws.length p)).prop.2.2 r hr
  unfold ple at h1 ⊢
  show (ws.getD p []).length + pc (cN ws) p _ < (ws.getD p []).length + pc (cN ws) p _ ∨ ((ws.getD p []).length + pc (cN ws) p _ = (ws.getD p []).length + pc (cN ws) p _ ∧ lle (p :: _) (p :: r) = true)
  have h1 : pc (cN ws) p (bo (cN ws) p (oth ws.length p)) < pc (cN ws) p r ∨ (pc (cN ws) p (bo (cN ws) p (oth ws.length p)) = pc (cN ws) p r ∧ lle (bo (cN ws) p (oth ws.length p)) r = true) := h1
  rcases h1 with q | ⟨q, q'⟩
  · exact .inl (by omega)
  · exact .inr ⟨by omega, by simp [lle, q']⟩
/-- a best order of all -/
def IsBest (ws : List (List Nat)) (o : List Nat) : Prop := o.Perm (List.range ws.length) ∧ ∀ o', o'.Perm (List.range ws.length) → ple (pO ws o, o) (pO ws o', o')
theorem IsBest.uniq {ws : List (List Nat)} {o o' : List Nat} (h : IsBest ws o) (g : IsBest ws o') : o = o' := by
  have := ple_antisymm (h.2 o' g.1) (g.2 o h.1)
  exact congrArg Prod.snd this
/-- among the best orders behind each sheet -/
theorem best_of {ws : List (List Nat)} {m : Nat × List Nat} (hm : m ∈ (List.range ws.length).map fun p => (pO ws (bA ws p), bA ws p)) (hle : ∀ y ∈ (List.range ws.length).map fun p => (pO ws (bA ws p), bA ws p), ple m y) : IsBest ws m.2 ∧ m.1 = pO ws m.2 := by
  obtain ⟨p, hp, rfl⟩ := List.mem_map.mp hm
  refine ⟨⟨bA_perm (List.mem_range.mp hp), fun o' ho => ?_⟩, rfl⟩
  cases o' with
  | nil => have := ho.length_eq; simp at this; have := List.mem_range.mp hp; omega
  | cons q r =>
    have hq : q < ws.length := List.mem_range.mp (ho.mem_iff.mp (by simp))
    exact ple_trans (hle _ (List.mem_map.mpr ⟨q, List.mem_range.mpr hq, rfl⟩)) (bA_least hq ho)
abbrev pr2 (p : Nat × Nat) : Int × Int := ((p.1 : Int), (p.2 : Int))
abbrev prL (p : Nat × List Nat) : Int × Tup Int := ((p.1 : Int), ⟨p.2.map fun n : Nat => (n : Int)⟩)
theorem lt_prL (p q : Nat × List Nat) : DatumOrd.lt (prL p) (prL q) = decide (¬ ple q p) := by
  show (if (p.1 : Int) = q.1 then listLt (p.2.map fun n : Nat => (n : Int)) (q.2.map fun n : Nat => (n : Int)) else decide ((p.1 : Int) < q.1)) = _
  rw [listLt_lle]
  unfold ple
  by_cases h : p.1 = q.1
  · rw [if_pos (by omega), Bool.eq_iff_iff]
    simp [h]
  · rw [if_neg (by omega), Bool.eq_iff_iff]
    simp
    omega
theorem lt_pr2 (p q : Nat × Nat) : DatumOrd.lt (pr2 p) (pr2 q) = decide (p.1 < q.1 ∨ (p.1 = q.1 ∧ p.2 < q.2)) := by
  show (if (p.1 : Int) = q.1 then decide ((p.2 : Int) < q.2) else decide ((p.1 : Int) < q.1)) = _
  by_cases h : p.1 = q.1
  · rw [if_pos (by omega), Bool.eq_iff_iff]; simp [h]
  · rw [if_neg (by omega), Bool.eq_iff_iff]; simp [h]
/-- the fold over mapped items is a mapped item -/
theorem minOf_map {α β : Type} [DecidableEq α] [DatumOrd α] (f : β → α) (le : β → β → Prop) (tot : ∀ p q, le p q ∨ le q p) (tr : ∀ p q r, le p q → le q r → le p r) (hlt : ∀ p q, DatumOrd.lt (f p) (f q) = true ↔ ¬ le q p) :
    ∀ (l : List β) (b : β), ∃ m, m ∈ b :: l ∧ minOf (f b) (l.map f) = f m ∧ ∀ y ∈ b :: l, le m y := by
  intro l
  unfold minOf
  induction l with
  | nil => intro b; exact ⟨b, by simp, rfl, fun y hy => by rw [List.mem_singleton.mp hy]; exact (tot b b).elim id id⟩
  | cons a l ih =>
    intro b
    rw [List.map_cons, List.foldl_cons]
    by_cases h : DatumOrd.lt (f a) (f b) = true
    · rw [if_pos h]
      obtain ⟨m, h1, h2, h3⟩ := ih a
      refine ⟨m, List.mem_cons_of_mem _ h1, h2, fun y hy => ?_⟩
      rcases List.mem_cons.mp hy with rfl | hy
      · have hn := (hlt a y).mp h
        have : le a y := (tot a y).resolve_right hn
        exact tr _ _ _ (h3 a (by simp)) this
      · exact h3 y hy
    · rw [if_neg h]
      obtain ⟨m, h1, h2, h3⟩ := ih b
      refine ⟨m, ?_, h2, fun y hy => ?_⟩
      · rcases List.mem_cons.mp h1 with rfl | h1
        · simp
        · simp [h1]
      · rcases List.mem_cons.mp hy with rfl | hy
        · exact h3 y (by simp)
        · rcases List.mem_cons.mp hy with rfl | hy
          · have : le b y := Classical.byContradiction fun z => h ((hlt y b).mpr z)
            exact tr _ _ _ (h3 b (by simp)) this
          · exact h3 y (by simp [hy])
/-- min of (price, order) -/
theorem min_prL {l : List (Nat × List Nat)} {μ : Sto} {Q : DK} (hl : l ≠ []) (q : ∀ m, m ∈ l → (∀ y ∈ l, ple m y) → Q (.tup [.int m.1, .tup (nats m.2)]) μ) : rdMinD [.lst (l.map fun p => .tup [.int p.1, .tup (nats p.2)])] μ Q := by
  cases l with
  | nil => exact absurd rfl hl
  | cons b l =>
    have e : ((b :: l).map fun p : Nat × List Nat => D.tup [.int p.1, .tup (nats p.2)]) = ((prL b) :: l.map prL).map DatD.of := by
      rw [show (prL b :: l.map prL) = (b :: l).map prL from rfl, List.map_map]
      refine List.map_congr_left fun p _ => ?_
      show _ = D.tup [D.int p.1, D.tup (List.map D.int (p.2.map fun n : Nat => (n : Int)))]
      rw [List.map_map]; rfl
    rw [e]
    refine rdMinD_of (α := Int × Tup Int) (by show max 0 1 + 1 ≤ 60; omega) ?_
    obtain ⟨m, h1, h2, h3⟩ := minOf_map prL ple ple_total (fun _ _ _ => ple_trans) (fun p q => by rw [lt_prL]; simp) l b
    rw [h2]
    have e2 : (DatD.of (prL m) : D) = .tup [.int m.1, .tup (nats m.2)] := by
      show D.tup [D.int m.1, D.tup (List.map D.int (m.2.map fun n : Nat => (n : Int)))] = _
      rw [List.map_map]; rfl
    rw [e2]
    exact q m h1 h3
/-- min of (price, number) -/
theorem min_pr2 {l : List (Nat × Nat)} {μ : Sto} {Q : DK} (hl : l ≠ []) (q : ∀ m, m ∈ l → (∀ y ∈ l, m.1 < y.1 ∨ (m.1 = y.1 ∧ m.2 ≤ y.2)) → Q (.tup [.int m.1, .int m.2]) μ) : rdMinD [.lst (l.map fun p => .tup [.int p.1, .int p.2])] μ Q := by
  cases l with
  | nil => exact absurd rfl hl
  | cons b l =>
    have e : ((b :: l).map fun p : Nat × Nat => D.tup [.int p.1, .int p.2]) = ((pr2 b) :: l.map pr2).map DatD.of := by
      rw [show (pr2 b :: l.map pr2) = (b :: l).map pr2 from rfl, List.map_map]
      rfl
    rw [e]
    refine rdMinD_of (α := Int × Int) (by show max 0 0 + 1 ≤ 60; omega) ?_
    obtain ⟨m, h1, h2, h3⟩ := minOf_map pr2 (fun p q => p.1 < q.1 ∨ (p.1 = q.1 ∧ p.2 ≤ q.2)) (fun p q => by omega) (fun p q r => by omega) (fun p q => by rw [lt_pr2]; simp; omega) l b
    rw [h2]
    exact q m h1 h3
end DL

namespace DL
open PySem PySem.Spec PyProof.Rows L2
section
variable {X : Cx} {e o a b t : Expr} {do' : TED} {p pos apos : Pos} {da db : TFD} {ta : TTD}
@[simp] def dBits (o : TED) : TED := fun ρ μ Q => o ρ μ fun x μ1 => ∃ i, x = .int i ∧ Q (.int (Builtin.Int.intBits i : Nat)) μ1
theorem de_bits (ho : DE X o do') (hbase : attributeBase o "bit_length" X.env (eval o X.env) = eval o X.env := by rfl) (hline : (apos.endLine == pos.line) = true := by rfl) : DE X (.Call (.Attribute o "bit_length" apos) [] [] pos) (dBits do') := (pe_bits ho hbase hline).weaken fun σ H Q q => by
  obtain ⟨F, ρ, μ, Qd, R, hd, k⟩ := q
  refine ⟨F, ρ, μ, _, R, hd, fun v F1 μ1 H1 dv e1 o1 w1 q1 => ?_⟩
  obtain ⟨i, rfl, q1⟩ := q1
  cases w1
  exact ⟨i, rfl, k _ F1 μ1 H1 _ e1 o1 (.int _) q1⟩
@[simp] def dIfF (t : TTD) (a b : TFD) : TFD := fun ρ μ Q => t ρ μ fun c μ1 => if c = true then a ρ μ1 Q else b ρ μ1 Q
end
end DL

namespace DL
open PySem PySem.Spec PyProof.Rows L2
def sp_members_of : DSp := fun ds μ Q _ => ∃ x : Nat, ds = [.int x] ∧ x < 2 ^ 20 ∧ Q (.lst (nats (mbN 20 x))) μ
/-- members_of(left); slots 0:left 1:number -/
def b_members_of : TSD :=
  (dRet (dF (dLc [1] (dRng1 (dCons (dBits (dVar 0)) dNil)) (dName 1) (dB (dOp rdEq (dOp rdAnd (dOp rdShr (dLook 0) (dLook 1)) (dC (.int 1))) (dC (.int 1)))) (dVar 1))))
theorem len_members_of : ∀ ds μ Q E, sp_members_of ds μ Q E → ds.length = 1 := by
  rintro ds μ Q E ⟨x, rfl, _⟩; rfl
theorem rng_nats (n : Nat) : rngD 0 n = nats (List.range n) := by unfold rngD nats; simp
theorem ok_members_of : ∀ ds μ Q E, sp_members_of ds μ Q E → b_members_of { nx := fun _ μ' => Q .non μ', rt := Q } (startD 2 ds) μ := by
  rintro ds μ Q E ⟨x, rfl, hx, q⟩
  obtain ⟨m, hm, hm20, hxm⟩ : ∃ m, Builtin.Int.intBits (x : Int) = m ∧ m ≤ 20 ∧ x < 2 ^ m := by
    refine ⟨_, rfl, ?_, ?_⟩
    · unfold Builtin.Int.intBits
      split
      · omega
      · rename_i h
        have h0 : x ≠ 0 := by simpa using h
        have := (Nat.log2_lt h0).mpr hx
        simp; omega
    · unfold Builtin.Int.intBits
      split
      · rename_i h
        have h0 : x = 0 := by simpa using h
        subst h0; decide
      · simp
        exact Nat.lt_log2_self
  unfold b_members_of
  simp [hm, -lcD]
  refine ⟨by unfold rngOk; omega, ?_⟩
  rw [rng_nats]
  refine lcD_listF (List.range m) (hasB x) (fun n : Nat => D.int n) (fun n : Nat => D.int n) trivial (by simp; omega) (fun i hi k n g1 g2 => ?_) ?_
  · simp [bitAnd_m1]
    have e : ((x : Int) / 2 ^ i % 2) = ((x / 2 ^ i % 2 : Nat) : Int) := by simp
    rw [e]
    by_cases h : x / 2 ^ i % 2 = 1
    · rw [h]; simp; exact g1 (by unfold hasB; simp [h])
    · have h0 : x / 2 ^ i % 2 = 0 := by omega
      rw [h0]; simp; exact g2 (by unfold hasB; simp [h0])
  · rw [mbN_less hm20 hxm] at q
    exact q
abbrev ky (p x : Nat) : List Key := [.inl (p : Int), .inl (x : Int)]
/-- all sets below x, and the sheets below l for x itself -/
def TabU (ws : List (List Nat)) (x l : Nat) (kvs : List (List Key × D)) : Prop := ∀ p y, p < ws.length → (y < x ∨ (y = x ∧ p < l)) → valT kvs (ky p y) = some (.int (RR (cN ws) p (mbN 20 y)))
def Tab (ws : List (List Nat)) (kvs : List (List Key × D)) : Prop := TabU ws (2 ^ ws.length) 0 kvs
theorem valT_put (kvs : List (List Key × D)) (k k' : List Key) (d : D) : valT (putT kvs k d) k' = if k = k' then some d else valT kvs k' := by
  unfold putT
  split
  · rename_i h
    have : ∀ l : List (List Key × D), (l.any fun kv => decide (kv.1 = k)) = true → valT (l.map fun kv => if kv.1 = k then (kv.1, d) else kv) k' = if k = k' then some d else valT l k' := by
      intro l
      induction l with
      | nil => intro h; cases h
      | cons a l ih =>
        intro h
        unfold valT at ih ⊢
        rw [List.map_cons, List.find?_cons, List.find?_cons]
        by_cases e : a.1 = k
        · rw [if_pos e]
          by_cases e2 : k = k'
          · simp [e, e2]
          · have : ¬ a.1 = k' := fun z => e2 (e.symm.trans z)
            simp only [this, decide_false]
            by_cases hl : (l.any fun kv => decide (kv.1 = k)) = true
            · exact ih hl
            · rw [if_neg e2]
              congr 1
              have hm : (l.map fun kv => if kv.1 = k then (kv.1, d) else kv) = l := by
                refine (List.map_congr_left fun b hb => ?_).trans (List.map_id _)
                rw [if_neg]
                · rfl
                · intro z; exact hl (List.any_eq_true.mpr ⟨b, hb, by simpa using z⟩)
              rw [hm]
        · have hl : (l.any fun kv => decide (kv.1 = k)) = true := by simpa [e] using h
          rw [if_neg e]
          by_cases e2 : a.1 = k'
          · have : ¬ k = k' := fun z => e (e2.trans z.symm)
            simp [e2, this]
          · simp only [e2, decide_false]
            exact ih hl
    exact this kvs h
  · rename_i h
    unfold valT
    rw [List.find?_append]
    by_cases e : k = k'
    · subst e
      have : (kvs.find? fun kv => decide (kv.1 = k)) = none := by
        rw [List.find?_eq_none]
        intro a ha z
        exact h (List.any_eq_true.mpr ⟨a, ha, z⟩)
      simp [this]
    · simp [e]
theorem putT_len (kvs : List (List Key × D)) (k : List Key) (d : D) : (putT kvs k d).length ≤ kvs.length + 1 := by
  unfold putT
  split <;> simp
theorem ky_inj {p x q y : Nat} (h : ky p x = ky q y) : p = q ∧ x = y := by
  simp at h; omega
def sp_least_rests : DSp := fun ds μ Q _ => ∃ ws : List (List Nat), ds = [shD ws] ∧ ShOk ws ∧ ws.length ≤ 8 ∧ ∀ f kvs, μ f = none → Tab ws kvs → Q (.ref f) (sset μ f (.dtt kvs))
def b_least_rests_3l_1l_2 : TSD :=
  (dPutT (dIf (dB (dOp rdNe (dLook 5) (dLst dNil))) (dFn rdMin (dCons (dLook 5) dNil)) (dC (.int 0))) (dLook 2) (dCons (dVar 4) (dCons (dVar 3) dNil)))
def b_least_rests_3l_1l : TSD :=
  (dSeq (dSetR 5 (dVal (dF (dLc [8] (dEach (dCall sp_members_of (dCons (dVar 3) dNil) noD)) (dName 8) dYes (dOp rdAdd (dOp rdIx (dOp rdIx (dLook 1) (dLook 4)) (dLook 8)) (dGetT (dLook 2) (dCons (dVar 8) (dCons (dOp rdSub (dLook 3) (dOp rdShl (dC (.int 1)) (dLook 8))) dNil))))))))
  b_least_rests_3l_1l_2)
def b_least_rests_3l : TSD :=
  (dFor (dRng1 (dCons (dFn rdLen (dCons (dLook 0) dNil)) dNil)) (dName 4)
  b_least_rests_3l_1l)
def b_least_rests_4 : TSD :=
  (dRet (dLook 2))
def b_least_rests_3 : TSD :=
  (dSeq (dFor (dRng1 (dCons (dOp rdShl (dC (.int 1)) (dFn rdLen (dCons (dLook 0) dNil))) dNil)) (dName 3)
  b_least_rests_3l)
  b_least_rests_4)
def b_least_rests_2 : TSD :=
  (dSeq (dSetR 2 (dVal dNewT))
  b_least_rests_3)
/-- least_rests(sheets); slots 0:sheets 1:prices 2:found 3:left 4:last 5:rests 6:one 7:other 8:number -/
def b_least_rests : TSD :=
  (dSeq (dSetR 1 (dVal (dF (dLc [6] (dEach (dVar 0)) (dName 6) dYes (dF (dLc [7] (dEach (dVar 0)) (dName 7) dYes (dCall sp_price (dCons (dVar 6) (dCons (dVar 7) dNil)) noD)))))))
  b_least_rests_2)
theorem len_least_rests : ∀ ds μ Q E, sp_least_rests ds μ Q E → ds.length = 1 := by
  rintro ds μ Q E ⟨x, rfl, _⟩; rfl
def prD (ws : List (List Nat)) : List D := ws.map fun a => .lst (ws.map fun b => .int (cst a b))
theorem prD_at {ws : List (List Nat)} {p i : Nat} (hp : p < ws.length) (hi : i < ws.length) : ∃ r, (prD ws)[p]? = some (.lst r) ∧ r[i]? = some (.int (cN ws p i)) := by
  refine ⟨ws.map fun b => .int (cst ws[p] b), ?_, ?_⟩
  · unfold prD; simp [hp]
  · unfold cN; simp [hi, hp]
theorem sset_sset4 {μ : Sto} {a : Addr} {o o' : MO} : sset (sset μ a o) a o' = sset μ a o' := by
  funext b
  unfold sset
  split <;> rfl
theorem lr_turn {ws : List (List Nat)} (hn : ws.length ≤ 8) {p x : Nat} (hp : p < ws.length) (hx : x < 2 ^ ws.length) {kvs : List (List Key × D)} {f : Addr} {μ : Sto} (hf : μ f = some (.dtt kvs)) (hT : TabU ws x p kvs) (hk : kvs.length ≤ 100000) {E : DEnds} {ρ5 ρ6 ρ7 : Option DS}
    (fin : ∀ x5 kvs', TabU ws x (p + 1) kvs' → kvs'.length ≤ kvs.length + 1 → E.nx [some (.val (shD ws)), some (.val (.lst (prD ws))), some (.val (.ref f)), some (.val (.int x)), some (.val (.int p)), x5, ρ6, ρ7, none] (sset μ f (.dtt kvs'))) :
    b_least_rests_3l_1l E [some (.val (shD ws)), some (.val (.lst (prD ws))), some (.val (.ref f)), some (.val (.int x)), some (.val (.int p)), ρ5, ρ6, ρ7, none] μ := by
  have h8 : 2 ^ ws.length ≤ 2 ^ 8 := Nat.pow_le_pow_right (by omega) hn
  have hx20 : x < 2 ^ 20 := by omega
  have hmem : ∀ i ∈ mbN 20 x, i < ws.length ∧ x / 2 ^ i % 2 = 1 := fun i hi => by
    rw [mbN_less (show ws.length ≤ 20 by omega) hx] at hi
    exact mbN_mem.mp hi
  unfold b_least_rests_3l_1l
  rw [dSeq]
  simp [-dSeq, -lcD]
  refine ⟨x, rfl, hx20, ?_⟩
  simp [-dSeq, -lcD]
  refine lcD_list (mbN 20 x) (fun n : Nat => D.int n) (fun i : Nat => .int (via (cN ws) p i (mbN 20 x) : Nat)) trivial (by have := (mbN_nodup 20 x); have h := List.length_filter_le (hasB x) (List.range 20); rw [List.length_range] at h; show (List.filter _ _).length ≤ 16777216; omega) (fun i hi k hk => ?_) ?_
  · obtain ⟨i1, i2⟩ := hmem i hi
    have hle := hasB_le i2
    obtain ⟨r, hr1, hr2⟩ := prD_at hp i1
    have hv := hT i (x - 2 ^ i) i1 (.inl (by have := Nat.two_pow_pos i; omega))
    simp [atI_nat, hr1, hr2, powOk]
    refine ⟨by omega, ?_⟩
    have e : ((x : Int) - 2 ^ i) = ((x - 2 ^ i : Nat) : Int) := by rw [Int.natCast_sub hle]; simp
    rw [e]
    refine ⟨kvs, hf, _, hv, ?_⟩
    simp
    have e2 : ((cN ws p i : Nat) : Int) + (RR (cN ws) i (mbN 20 (x - 2 ^ i)) : Nat) = (via (cN ws) p i (mbN 20 x) : Nat) := by
      unfold via; rw [mbN_erase hi]; simp
    rw [e2]; exact hk
  · have fin2 : ∀ v x5, v = (RR (cN ws) p (mbN 20 x) : Nat) → E.nx [some (.val (shD ws)), some (.val (.lst (prD ws))), some (.val (.ref f)), some (.val (.int x)), some (.val (.int p)), x5, ρ6, ρ7, none] (sset μ f (.dtt (putT kvs (ky p x) (.int (v : Nat))))) := by
      rintro v x5 rfl
      refine fin _ _ (fun q y hq hy => ?_) (putT_len _ _ _)
      rw [valT_put]
      by_cases e : ky p x = ky q y
      · obtain ⟨rfl, rfl⟩ := ky_inj e
        rw [if_pos e]
      · rw [if_neg e]
        refine hT q y hq ?_
        rcases hy with hy | ⟨rfl, hy⟩
        · exact .inl hy
        · refine .inr ⟨rfl, ?_⟩
          have : q ≠ p := fun z => e (by rw [z])
          omega
    obtain ⟨T, hTe⟩ : ∃ T, mbN 20 x = T := ⟨_, rfl⟩
    rw [hTe] at fin2 ⊢
    show b_least_rests_3l_1l_2 _ _ _
    unfold b_least_rests_3l_1l_2
    have okk : okEq (.lst (T.map fun i => D.int (via (cN ws) p i T : Nat))) (.lst []) := by
      have := okEq_ints (T.map fun i => ((via (cN ws) p i T : Nat) : Int)) []
      rwa [List.map_map] at this
    simp
    refine ⟨okk, ?_⟩
    rw [eqvs_nil_r]
    cases hT0 : T with
    | nil =>
      subst hT0
      simp
      exact ⟨kvs, hf, by omega, fin2 0 _ rfl⟩
    | cons t0 T0 =>
      have hne : T ≠ [] := by rw [hT0]; exact List.cons_ne_nil _ _
      rw [← hT0, if_neg (by rw [hT0]; simp)]
      refine ⟨T.map fun i => ((via (cN ws) p i T : Nat) : Int), by rw [List.map_map]; rfl, by rw [List.length_map, hT0]; simp, fun m hm hle => ⟨kvs, hf, by omega, ?_⟩⟩
      obtain ⟨i, hi, rfl⟩ := List.mem_map.mp hm
      refine fin2 _ _ ?_
      rw [RR_step hne]
      refine (minN_of (m := via (cN ws) p i T) (List.mem_map.mpr ⟨i, hi, rfl⟩) fun y hy => ?_).symm
      obtain ⟨j, hj, rfl⟩ := List.mem_map.mp hy
      have := hle _ (List.mem_map.mpr ⟨j, hj, rfl⟩)
      omega
theorem ok_least_rests : ∀ ds μ Q E, sp_least_rests ds μ Q E → b_least_rests { nx := fun _ μ' => Q .non μ', rt := Q } (startD 9 ds) μ := by
  rintro ds μ Q E ⟨ws, rfl, hS, hn, q⟩
  unfold b_least_rests
  rw [dSeq]
  simp [-dSeq, -lcD]
  refine lcD_list ws D.str (fun a => .lst (ws.map fun b => .int (cst a b))) trivial (by show _ ≤ 16777216; omega) (fun a ha k hk => ?_) ?_
  · simp [-lcD]
    refine lcD_list ws D.str (fun b => .int (cst a b)) trivial (by show _ ≤ 16777216; omega) (fun b hb k hk => ?_) hk
    simp
    refine ⟨a, b, rfl, hS.2 a ha, hS.2 b hb, ?_⟩
    have h1 := fp_le a b 0
    have e : ((b.length : Int) - (fp a b 0).length) = (cst a b : Nat) := by unfold cst; omega
    rw [e]; exact hk
  show b_least_rests_2 _ _ _
  rw [show (ws.map fun a => D.lst (ws.map fun b => D.int (cst a b))) = prD ws from rfl]
  unfold b_least_rests_2
  rw [dSeq]
  simp [-dSeq]
  intro f hf
  unfold b_least_rests_3
  rw [dSeq]
  simp [-dSeq, -forD, powOk]
  refine ⟨by omega, ?_⟩
  have h8 : 2 ^ ws.length ≤ 2 ^ 8 := Nat.pow_le_pow_right (by omega) hn
  have e : ((2 : Int) ^ ws.length) = ((2 ^ ws.length : Nat) : Int) := by simp
  rw [e]
  refine ⟨by unfold rngOk; generalize 2 ^ ws.length = z at h8; omega, ?_⟩
  rw [Int.toNat_natCast]
  refine forD_rng (fun x ρ μ' => ∃ kvs, TabU ws x 0 kvs ∧ kvs.length ≤ 8 * x ∧ μ' = sset μ f (.dtt kvs) ∧ ∃ x3 x4 x5 x6 x7, ρ = [some (.val (shD ws)), some (.val (.lst (prD ws))), some (.val (.ref f)), x3, x4, x5, x6, x7, none]) ?_ ?_ ⟨[], fun p y _ hy => by omega, by simp, rfl, _, _, _, _, _, rfl⟩
  · rintro x ρ μ' k hx ⟨kvs, hT, hk, rfl, x3, x4, x5, x6, x7, rfl⟩ hnx
    unfold b_least_rests_3l
    simp [-forD]
    refine ⟨by unfold rngOk; omega, ?_⟩
    refine forD_rng (fun p ρ μ' => ∃ kvs', TabU ws x p kvs' ∧ kvs'.length ≤ 8 * x + p ∧ μ' = sset μ f (.dtt kvs') ∧ ∃ x4 x5, ρ = [some (.val (shD ws)), some (.val (.lst (prD ws))), some (.val (.ref f)), some (.val (.int x)), x4, x5, x6, x7, none]) ?_ ?_ ⟨kvs, hT, by omega, rfl, _, _, rfl⟩
    · rintro p ρ μ' k2 hp ⟨kvs2, hT2, hk2, rfl, x4, x5, rfl⟩ hk3
      simp [-dSeq]
      refine lr_turn hn hp hx sset_same hT2 (by omega) fun x5 kvs3 hT3 hk4 => ?_
      rw [sset_sset4]
      exact hk3 _ _ ⟨kvs3, hT3, by omega, rfl, _, _, rfl⟩
    · rintro ρ μ' ⟨kvs2, hT2, hk2, rfl, x4, x5, rfl⟩
      refine hnx _ _ ⟨kvs2, fun p y hp hy => hT2 p y hp (by omega), by omega, rfl, _, _, _, _, _, rfl⟩
  · rintro ρ μ' ⟨kvs, hT, hk, rfl, x3, x4, x5, x6, x7, rfl⟩
    dsimp only
    unfold b_least_rests_4
    simp
    exact q f kvs hf hT
def sp_best_from : DSp := fun ds μ Q _ => ∃ (ws : List (List Nat)) (p : Nat) (f : Addr) (kvs : List (List Key × D)), ds = [shD ws, .int p, .ref f] ∧ ShOk ws ∧ ws.length ≤ 8 ∧ p < ws.length ∧ μ f = some (.dtt kvs) ∧ Tab ws kvs ∧ Q (.tup (nats (bA ws p))) μ
def b_best_from_2l_3 : TSD :=
  (dAsg (dTup (dCons (dTup (dStar (dLook 3) (dCons (dVar 7) dNil))) (dCons (dOp rdSub (dLook 4) (dOp rdShl (dC (.int 1)) (dLook 7))) dNil))) (dUnp 2 (gdCons (dName 3) (gdCons (dName 4) gdNil))))
def b_best_from_2l_2 : TSD :=
  (dSeq (dSetR 7 (dVal (dOp rdIx (dFn rdMinD (dCons (dF (dLc [8] (dEach (dVar 6)) (dName 8) dYes (dTup (dCons (dOp rdAdd (dCall sp_price (dCons (dVar 5) (dCons (dOp rdIx (dLook 0) (dLook 8)) dNil)) noD) (dGetT (dLook 2) (dCons (dVar 8) (dCons (dOp rdSub (dLook 4) (dOp rdShl (dC (.int 1)) (dLook 8))) dNil)))) (dCons (dVar 8) dNil))))) dNil)) (dC (.int 1)))))
  b_best_from_2l_3)
def b_best_from_2l : TSD :=
  (dSeq (dAsg (dTup (dCons (dOp rdIx (dLook 0) (dOp rdIx (dLook 3) (dNeg (dC (.int 1))))) (dCons (dCall sp_members_of (dCons (dVar 4) dNil) noD) dNil))) (dUnp 2 (gdCons (dName 5) (gdCons (dName 6) gdNil))))
  b_best_from_2l_2)
def b_best_from_3 : TSD :=
  (dRet (dLook 3))
def b_best_from_2 : TSD :=
  (dSeq (dWhile (dB (dOp rdGt (dLook 4) (dC (.int 0))))
  b_best_from_2l)
  b_best_from_3)
/-- best_from(sheets, first, rests); slots 0:sheets 1:first 2:rests 3:order 4:left 5:last 6:some 7:number 8:one -/
def b_best_from : TSD :=
  (dSeq (dAsg (dTup (dCons (dTup (dCons (dVar 1) dNil)) (dCons (dOp rdSub (dOp rdSub (dOp rdShl (dC (.int 1)) (dFn rdLen (dCons (dLook 0) dNil))) (dC (.int 1))) (dOp rdShl (dC (.int 1)) (dLook 1))) dNil))) (dUnp 2 (gdCons (dName 3) (gdCons (dName 4) gdNil))))
  b_best_from_2)
theorem len_best_from : ∀ ds μ Q E, sp_best_from ds μ Q E → ds.length = 3 := by
  rintro ds μ Q E ⟨ws, p, f, kvs, rfl, _⟩; rfl
theorem mb_oth {n p : Nat} (hn : n ≤ 20) (hp : p < n) : mbN 20 (2 ^ n - 1 - 2 ^ p) = oth n p := by
  have h1 : mbN 20 (2 ^ n - 1) = List.range n := by rw [mbN_less hn (by have := Nat.two_pow_pos n; omega), mbN_full]
  have h2 : p ∈ mbN 20 (2 ^ n - 1) := by rw [h1]; exact List.mem_range.mpr hp
  rw [← mbN_erase h2, h1]
def BfI (ws : List (List Nat)) (p : Nat) (f : Addr) (μ : Sto) (k : Nat) (ρ : DEnv) (μ' : Sto) : Prop := ∃ (o A : List Nat) (l : Nat), k < 2 ^ ws.length ∧ p :: o = A ++ [l] ∧ (∀ r, Bst (cN ws) l (mbN 20 k) r → Bst (cN ws) p (oth ws.length p) (o ++ r)) ∧ l < ws.length ∧ o.length + k ≤ 300 ∧ μ' = μ ∧
      ∃ x5 x6 x7, ρ = [some (.val (shD ws)), some (.val (.int p)), some (.val (.ref f)), some (.val (.tup (nats (p :: o)))), some (.val (.int k)), x5, x6, x7, none]
theorem ok_best_from : ∀ ds μ Q E, sp_best_from ds μ Q E → b_best_from { nx := fun _ μ' => Q .non μ', rt := Q } (startD 9 ds) μ := by
  rintro ds μ Q E ⟨ws, p, f, kvs, rfl, hS, hn, hp, hf, hT, q⟩
  have h8 : 2 ^ ws.length ≤ 2 ^ 8 := Nat.pow_le_pow_right (by omega) hn
  have hpp : 2 ^ p ≤ 2 ^ ws.length - 1 := by
    have : 2 ^ p < 2 ^ ws.length := Nat.pow_lt_pow_right (by omega) hp
    omega
  have hz := Nat.two_pow_pos p
  have hz2 := Nat.two_pow_pos ws.length
  have hlt : 2 ^ ws.length - 1 - 2 ^ p < 2 ^ ws.length := by omega
  unfold b_best_from
  rw [dSeq]
  simp [-dSeq, powOk]
  refine ⟨by omega, by omega, ?_⟩
  have e : ((2 : Int) ^ ws.length - 1 - 2 ^ p) = ((2 ^ ws.length - 1 - 2 ^ p : Nat) : Int) := by
    rw [Int.natCast_sub hpp, Int.natCast_sub hz2]; simp
  rw [e]
  unfold b_best_from_2
  rw [dSeq]
  simp only [dSeq]
  refine dWhile_inv (BfI ws p f μ) ?_ (2 ^ ws.length - 1 - 2 ^ p) ⟨[], [], p, hlt, rfl, fun r h => by rw [mb_oth (by omega) hp] at h; exact h, hp, by have : ([] : List Nat).length = 0 := rfl; omega, rfl, _, _, _, rfl⟩
  rintro k ρ μ' nn ⟨o, A, l, hx, hA, hB, hl, ho, rfl, x5, x6, x7, rfl⟩ hnn
  have hx20 : k < 2 ^ 20 := by omega
  simp [-dSeq]
  by_cases hk0 : k = 0
  · subst hk0
    simp
    unfold b_best_from_3
    simp
    have := hB [] (by rw [mbN_zero]; exact .nil _)
    rw [List.append_nil] at this
    unfold bA at q
    rw [← this.bo] at q
    exact q
  have hk0' : 0 < k := by omega
  simp [hk0', -dSeq]
  refine ⟨fun ρ' μ'' => ∃ m', m' < k ∧ BfI ws p f μ' m' ρ' μ'', fun _ _ h => h, ?_⟩
  have hmem : ∀ i ∈ mbN 20 k, i < ws.length ∧ k / 2 ^ i % 2 = 1 := fun i hi => by
    rw [mbN_less (show ws.length ≤ 20 by omega) hx] at hi
    exact mbN_mem.mp hi
  have hne : mbN 20 k ≠ [] := fun z => hk0 (mbN_nil hx20 z)
  have hal : atI (D.int p :: nats o) (-1) = some (.int l) := by
    have : D.int p :: nats o = nats A ++ [D.int l] := by
      rw [show D.int p :: nats o = nats (p :: o) by simp [nats], hA]; simp [nats]
    rw [this]
    unfold atI ixN
    rw [List.length_append, List.length_singleton, if_neg (by omega), if_pos (by omega)]
    show (nats A ++ [D.int (l : Nat)])[((-1 : Int) + (((nats A).length + 1 : Nat) : Int)).toNat]? = _
    rw [show ((-1 : Int) + (((nats A).length + 1 : Nat) : Int)).toNat = (nats A).length by omega]
    simp
  have hal : atI (D.int p :: o.map fun n : Nat => D.int n) (-1) = some (.int l) := hal
  unfold b_best_from_2l
  rw [dSeq]
  simp [-dSeq, hal, atI_nat, hl]
  refine ⟨k, rfl, hx20, ?_⟩
  show b_best_from_2l_2 _ _ _
  unfold b_best_from_2l_2
  rw [dSeq]
  simp [-dSeq, -lcD]
  refine lcD_list (mbN 20 k) (fun n : Nat => D.int n) (fun i : Nat => .tup [.int (via (cN ws) l i (mbN 20 k) : Nat), .int i]) trivial (by have h := List.length_filter_le (hasB k) (List.range 20); rw [List.length_range] at h; show (List.filter _ _).length ≤ 16777216; omega) (fun i hi kk hkk => ?_) ?_
  · obtain ⟨i1, i2⟩ := hmem i hi
    have hle := hasB_le i2
    have hv := hT i (k - 2 ^ i) i1 (.inl (by have := Nat.two_pow_pos i; omega))
    simp [atI_nat, i1]
    refine ⟨ws[l], ws[i], rfl, hS.2 _ (List.getElem_mem _), hS.2 _ (List.getElem_mem _), ?_⟩
    simp [powOk]
    refine ⟨by omega, ?_⟩
    have e : ((k : Int) - 2 ^ i) = ((k - 2 ^ i : Nat) : Int) := by rw [Int.natCast_sub hle]; simp
    rw [e]
    refine ⟨kvs, hf, _, hv, ?_⟩
    simp
    have h1 := fp_le ws[l] ws[i] 0
    have e2 : (((ws[i]).length : Int) - (fp ws[l] ws[i] 0).length + (RR (cN ws) i (mbN 20 (k - 2 ^ i)) : Nat)) = (via (cN ws) l i (mbN 20 k) : Nat) := by
      unfold via cN cst; rw [mbN_erase hi]; simp [hl, i1]; omega
    rw [e2]; exact hkk
  · have e3 : ((mbN 20 k).map fun i : Nat => D.tup [.int (via (cN ws) l i (mbN 20 k) : Nat), .int i]) = ((mbN 20 k).map fun i => (via (cN ws) l i (mbN 20 k), i)).map fun p => .tup [.int p.1, .int p.2] := by rw [List.map_map]; rfl
    rw [e3]
    refine min_pr2 (by simpa using hne) fun m hm hle => ?_
    obtain ⟨i, hi, rfl⟩ := List.mem_map.mp hm
    obtain ⟨i1, i2⟩ := hmem i hi
    have hb := hasB_le i2
    simp
    unfold b_best_from_2l_3
    simp [powOk]
    refine ⟨by omega, by omega, ?_⟩
    have e : ((k : Int) - 2 ^ i) = ((k - 2 ^ i : Nat) : Int) := by rw [Int.natCast_sub hb]; simp
    rw [e]
    have h2p := Nat.two_pow_pos i
    refine ⟨k - 2 ^ i, by omega, o ++ [i], p :: o, i, by omega, by simp, fun r hr => ?_, i1, by simp; omega, rfl, _, _, _, by simp [nats]; exact ⟨rfl, rfl, rfl⟩⟩
    rw [← mbN_erase hi] at hr
    have := hB (i :: r) (.cons hi (fun j hj => ?_) hr)
    · rw [List.append_assoc]; exact this
    · exact hle _ (List.mem_map.mpr ⟨j, hj, rfl⟩)
def sp_best_after : DSp := fun ds μ Q _ => ∃ (ws : List (List Nat)) (p : Nat), ds = [shD ws, .int p] ∧ ShOk ws ∧ ws.length ≤ 8 ∧ p < ws.length ∧ ∀ μ', (∀ a, μ a ≠ none → μ' a = μ a) → Q (.tup (nats (bA ws p))) μ'
def b_best_after_2 : TSD :=
  (dRet (dCall sp_best_from (dCons (dVar 0) (dCons (dVar 1) (dCons (dCall sp_least_rests (dCons (dVar 0) dNil) noD) dNil))) noD))
/-- best_after(sheets, first); slots 0:sheets 1:first -/
def b_best_after : TSD :=
  (dSeq (dIfS (dNot (dB (dCall sp_is_between (dCons (dVar 1) (dCons (dC (.int 0)) (dCons (dOp rdSub (dFn rdLen (dCons (dLook 0) dNil)) (dC (.int 1))) dNil))) noD)))
  dNever
  dNext)
  b_best_after_2)
theorem len_best_after : ∀ ds μ Q E, sp_best_after ds μ Q E → ds.length = 2 := by
  rintro ds μ Q E ⟨ws, p, rfl, _⟩; rfl
theorem ok_best_after : ∀ ds μ Q E, sp_best_after ds μ Q E → b_best_after { nx := fun _ μ' => Q .non μ', rt := Q } (startD 2 ds) μ := by
  rintro ds μ Q E ⟨ws, p, rfl, hS, hn, hp, q⟩
  unfold b_best_after b_best_after_2
  rw [dSeq]
  simp [-dSeq]
  refine ⟨.int p, 0, (ws.length : Int) - 1, rfl, rfl, ?_⟩
  rw [show btw (.int p) 0 ((ws.length : Int) - 1) = true by unfold btw; simp; omega]
  simp
  refine ⟨ws, rfl, hS, hn, fun f kvs hf hT => ⟨ws, p, f, kvs, rfl, hS, hn, hp, sset_same, hT, q _ fun a ha => ?_⟩⟩
  rw [sset_ne]; intro e; subst e; exact ha hf
def sp_best_order : DSp := fun ds μ Q _ => ∃ ws : List (List Nat), ds = [shD ws] ∧ ShOk ws ∧ ws.length ≤ 8 ∧ 0 < ws.length ∧ ∀ o μ', IsBest ws o → (∀ a, μ a ≠ none → μ' a = μ a) → Q (.tup (nats o)) μ'
def b_best_order_3 : TSD :=
  (dRet (dOp rdIx (dFn rdMinD (dCons (dF (dLc [4] (dEach (dVar 2)) (dName 4) dYes (dTup (dCons (dCall sp_order_price (dCons (dVar 0) (dCons (dVar 4) dNil)) noD) (dCons (dVar 4) dNil))))) dNil)) (dC (.int 1))))
def b_best_order_2 : TSD :=
  (dSeq (dSetR 2 (dVal (dF (dLc [3] (dRng1 (dCons (dFn rdLen (dCons (dLook 0) dNil)) dNil)) (dName 3) dYes (dCall sp_best_from (dCons (dVar 0) (dCons (dVar 3) (dCons (dVar 1) dNil))) noD)))))
  b_best_order_3)
/-- best_order(sheets); slots 0:sheets 1:rests 2:orders 3:first 4:order -/
def b_best_order : TSD :=
  (dSeq (dSetR 1 (dVal (dCall sp_least_rests (dCons (dVar 0) dNil) noD)))
  b_best_order_2)
theorem len_best_order : ∀ ds μ Q E, sp_best_order ds μ Q E → ds.length = 1 := by
  rintro ds μ Q E ⟨ws, rfl, _⟩; rfl
theorem ok_best_order : ∀ ds μ Q E, sp_best_order ds μ Q E → b_best_order { nx := fun _ μ' => Q .non μ', rt := Q } (startD 5 ds) μ := by
  rintro ds μ Q E ⟨ws, rfl, hS, hn, h0, q⟩
  unfold b_best_order
  rw [dSeq]
  simp [-dSeq]
  refine ⟨ws, rfl, hS, hn, fun f kvs hf hT => ?_⟩
  have hμ : ∀ a, μ a ≠ none → sset μ f (.dtt kvs) a = μ a := fun a ha => by
    rw [sset_ne]; intro e; subst e; exact ha hf
  have hff : sset μ f (.dtt kvs) f = some (.dtt kvs) := sset_same
  generalize sset μ f (.dtt kvs) = μ1 at hμ hff
  simp
  unfold b_best_order_2
  rw [dSeq]
  simp [-dSeq, -lcD]
  refine ⟨by unfold rngOk; omega, ?_⟩
  rw [rng_nats]
  refine lcD_list (List.range ws.length) (fun n : Nat => D.int n) (fun p : Nat => .tup (nats (bA ws p))) trivial (by simp; omega) (fun p hp k hk => ?_) ?_
  · simp
    exact ⟨ws, p, f, kvs, rfl, hS, hn, List.mem_range.mp hp, hff, hT, hk⟩
  · show b_best_order_3 _ _ _
    unfold b_best_order_3
    simp [-lcD]
    refine lcD_list (List.range ws.length) (fun p : Nat => .tup (nats (bA ws p))) (fun p : Nat => .tup [.int (pO ws (bA ws p) : Nat), .tup (nats (bA ws p))]) trivial (by simp; omega) (fun p hp k hk => ?_) ?_
    · simp
      refine ⟨ws, bA ws p, rfl, hS, by omega, .of (bA_perm (List.mem_range.mp hp)), ?_⟩
      rw [show (List.map (fun i => ws.getD i []) (bA ws p)) = rowO ws (bA ws p) from rfl, fewS_pO]
      exact hk
    · have e3 : ((List.range ws.length).map fun p : Nat => D.tup [.int (pO ws (bA ws p) : Nat), .tup (nats (bA ws p))]) = ((List.range ws.length).map fun p => (pO ws (bA ws p), bA ws p)).map fun p => .tup [.int p.1, .tup (nats p.2)] := by rw [List.map_map]; rfl
      rw [e3]
      refine min_prL (by intro e; have := List.range_eq_nil.mp (List.map_eq_nil_iff.mp e); omega) fun m hm hle => ?_
      simp
      exact q _ _ (best_of hm hle).1 hμ
end DL

namespace DL
open PySem PySem.Spec PyProof.Rows L2
end DL

namespace DL
open PySem PySem.Spec PyProof.Rows L2
section
variable {X : Cx} {ea eb ec ed ek ex : Expr} {da db dc dd dk dx : TED} {p pos apos dpos : Pos}
@[simp] def dDG (a b c d k x : TED) : TED := fun ρ μ Q => a ρ μ fun va μ1 => b ρ μ1 fun vb μ2 => c ρ μ2 fun vc μ3 => d ρ μ3 fun vd μ4 =>
  ∃ ia ib ic id : Int, va = .int ia ∧ vb = .int ib ∧ vc = .int ic ∧ vd = .int id ∧ k ρ μ4 fun vk μ5 => x ρ μ5 fun vx μ6 => ∃ ik ix : Int, vk = .int ik ∧ vx = .int ix ∧ Q (.int (if ik = ic then id else if ik = ia then ib else ix)) μ6
end
end DL

namespace DL
open PySem PySem.Spec PyProof.Rows L2
theorem cut_ab {α : Type} (l : List α) (a b : Nat) (ha : a ≤ l.length) : cut l (some (a : Int)) (some (b : Int)) = (l.drop a).take (b - a) := by
  unfold cut
  rw [HT.sIx_nat, HT.sIx_nat, Nat.min_eq_left ha]
  by_cases h : b ≤ l.length
  · rw [Nat.min_eq_left h]
  · rw [Nat.min_eq_right (by omega), List.take_of_length_le (by simp), List.take_of_length_le (by simp; omega)]
end DL

namespace DL
open PySem PySem.Spec PyProof.Rows L2
open PySem.W (Tup Datum DatumOrd minOf minD dataLt alike AlikeAll listLt)
theorem IsBest.le {ws : List (List Nat)} {o o' : List Nat} (h : IsBest ws o) (g : o'.Perm (List.range ws.length)) : pO ws o ≤ pO ws o' := by
  have := h.2 o' g
  unfold ple at this
  have : pO ws o < pO ws o' ∨ (pO ws o = pO ws o' ∧ _) := this
  omega
theorem IsBest.head {ws : List (List Nat)} {o : List Nat} (h : IsBest ws o) (h0 : 0 < ws.length) : ∃ p r, o = p :: r ∧ p < ws.length ∧ bA ws p = o := by
  cases o with
  | nil => have := h.1.length_eq; simp at this; omega
  | cons p r =>
    have hp : p < ws.length := List.mem_range.mp (h.1.mem_iff.mp (by simp))
    refine ⟨p, r, rfl, hp, ?_⟩
    have := ple_antisymm (h.2 _ (bA_perm hp)) (bA_least hp h.1)
    exact (congrArg Prod.snd this).symm
@[simp] theorem ltD_int {i j : Int} {μ : Sto} {Q : DK} : rdLtD (.int i) (.int j) μ Q = Q (.bl (decide (i < j))) μ := by
  unfold rdLtD
  have e1 : alike (D.int i).py (D.int j).py = true := DatumOrd.alike (α := Int) i j
  have e2 : dataLt (D.int i).py (D.int j).py = decide (i < j) := DatumOrd.lt_eq (α := Int) i j
  rw [e1, e2]
  apply propext
  constructor
  · exact fun h => h.2.2.2.2.2
  · exact fun h => ⟨rfl, rfl, rfl, fun e => (by cases e), by show min 0 0 ≤ 60; omega, h⟩
end DL

namespace DL
open PySem PySem.Spec PyProof.Rows L2
abbrev KS (P : Program) (w : World) := PySem.strKind P w
/-- the set of texts at a: S its members, at most n of them -/
def SetX (P : Program) (w : World) (h : Heap) (a : Addr) (S : Str → Bool) (n : Nat) : Prop :=
  ∃ (o : Obj) (es : Array (Int × Value)) (ep : Nat) (t : SetTable), h.get? a = some o ∧ o.ExactSet ∧ o.data = .set es ep t ∧ ElemsOf (KS P w) es.toList ∧
    (∀ k, S k = true ↔ ∃ e ∈ es.toList, (KS P w).is k e.2 = true) ∧ (es.size < scanBound ∧ es.size ≤ n) ∧ t.fits es.size = true ∧ Ris t.place.toList ∧ (w.params.followText "set-order" = true ∨ t.led = true)
section
variable {P : Program} {w : World} {A : Around} {E : Value → Shared → Prop} {s : Shared} {a : Addr} {S : Str → Bool} {n : Nat}
theorem SetX.at {h h' : Heap} (R : SetX P w h a S n) (k : ∀ o, h.get? a = some o → h'.get? a = some o) : SetX P w h' a S n := let ⟨o, es, ep, t, ho, r⟩ := R; ⟨o, es, ep, t, k o ho, r⟩
theorem SetX.congr {h : Heap} {S' : Str → Bool} (R : SetX P w h a S n) (e : ∀ k, S' k = S k) : SetX P w h a S' n := by rw [show S' = S from funext e]; exact R
theorem SetX.le {h : Heap} {m : Nat} (R : SetX P w h a S n) (l : n ≤ m) : SetX P w h a S m := by
  obtain ⟨o, es, ep, t, a1, a2, a3, a4, a5, ⟨a6, a7⟩, r⟩ := R
  exact ⟨o, es, ep, t, a1, a2, a3, a4, a5, ⟨a6, Nat.le_trans a7 l⟩, r⟩
end
section
variable {prog : Program} {w : World} {A : Around} {E : Value → Shared → Prop} {s : Shared}
end
end DL

namespace DL
open PySem PySem.Spec PyProof.Rows L2
section
variable {X : Cx} {a : Expr} {p p2 q pos : Pos} {d : TED}
@[simp] def dSortSetS (d : TED) : TFD := fun ρ μ Q => d ρ μ fun x μ1 => match x with
  | .lst xs => ∃ ns : List (List Nat), xs = ns.map D.str ∧ ns.length < 4000 ∧ ∀ out : List (List Nat), (∀ k, k ∈ out ↔ k ∈ ns) → out.length ≤ ns.length → Q (out.map D.str) μ1
  | _ => False
end
end DL

namespace DL
open PySem PySem.Spec PyProof.Rows L2
end DL

namespace DL
open PySem PySem.Spec PyProof.Rows L2
/-- the deck at j, its cells at c, at most b draws without them so far -/
def Deck (j c : Addr) (b : Nat) (μ : Sto) : Prop := ∃ (r n m : Nat) (cells : List Nat), n ≤ b ∧ j ≠ c ∧ m < 2147483629 ∧ μ j = some (.lst [.ref c, .int r, .int n, .int m]) ∧ μ c = some (.lst (nats cells)) ∧ cells.length ≤ 63
def StD (j c : Addr) (μ0 : Sto) (b : Nat) (μ : Sto) : Prop := Deck j c b μ ∧ Same j c μ0 μ
theorem Deck.le {j c : Addr} {b b' : Nat} {μ : Sto} (h : Deck j c b μ) (le : b ≤ b') : Deck j c b' μ := by
  obtain ⟨r, n, m, cells, hn, q⟩ := h
  exact ⟨r, n, m, cells, Nat.le_trans hn le, q⟩
theorem StD.le {j c : Addr} {b b' : Nat} {μ0 μ : Sto} (h : StD j c μ0 b μ) (le : b ≤ b') : StD j c μ0 b' μ := ⟨h.1.le le, h.2⟩
@[simp] theorem atI_3 {α : Type} {a b c d : α} : atI [a, b, c, d] 3 = some d := rfl
@[simp] theorem ixN_43 : ixN 4 3 = some 3 := rfl
end DL

namespace DL
open PySem PySem.Spec PyProof.Rows L2
/-- drawn sheets: at most n, of at most g letters each -/
def Shts (n g : Nat) (ws : List (List Nat)) : Prop := 0 < ws.length ∧ ws.length ≤ n ∧ ∀ w ∈ ws, Low w ∧ w.length ≤ g
end DL

namespace DL
open PySem PySem.Spec PyProof.Rows L2
end DL

namespace DL
open PySem PySem.Spec PyProof.Rows L2
end DL

namespace DL
open PySem PySem.Spec PyProof.Rows L2
end DL

namespace DL
open PySem PySem.Spec PyProof.Rows L2
theorem fp_nilR (one : List Nat) (b : Nat) : fp one [] b = [] := rfl
end DL

namespace DL
open PySem PySem.Spec PyProof.Rows L2
/-- q is a pick of one for other -/
def PkOk (one other q : List Nat) : Prop := q.Pairwise (· < ·) ∧ (∀ x ∈ q, x < one.length) ∧ q.length ≤ other.length ∧ ∀ i x, q[i]? = some x → one.getD x 0 = other.getD i 0
def PksG : List (List Nat) → List (List Nat) → Prop
  | [_], [] => True
  | w :: v :: ws, q :: ps => PkOk w v q ∧ PksG (v :: ws) ps
  | _, _ => False
end DL

namespace DL
open PySem PySem.Spec PyProof.Rows L2
end DL

namespace DL
open PySem PySem.Spec PyProof.Rows L2
end DL

namespace DL
open PySem PySem.Spec PyProof.Rows L2
/-- the places of c from b on -/
def spots (one : List Nat) (b c : Nat) : List Nat := ((List.range (one.length - b)).map (b + ·)).filter fun k => one.getD k 0 == c
theorem mem_spots {one : List Nat} {b c k : Nat} (h : k ∈ spots one b c) : b ≤ k ∧ k < one.length ∧ one.getD k 0 = c := by
  unfold spots at h
  rw [List.mem_filter, List.mem_map] at h
  obtain ⟨⟨i, hi, rfl⟩, h2⟩ := h
  simp at hi
  exact ⟨by omega, by omega, by simpa using h2⟩
/-- places so far, the next one is from b on -/
def PrePk (one pre q : List Nat) (b : Nat) : Prop := q.Pairwise (· < ·) ∧ (∀ x ∈ q, x < b) ∧ b ≤ one.length ∧ q.length = pre.length ∧ ∀ i x, q[i]? = some x → one.getD x 0 = pre.getD i 0
theorem PrePk.ok {one pre r q : List Nat} {b : Nat} (h : PrePk one pre q b) : PkOk one (pre ++ r) q := by
  obtain ⟨h1, h2, h3, h4, h5⟩ := h
  refine ⟨h1, fun x hx => Nat.lt_of_lt_of_le (h2 x hx) h3, by rw [List.length_append]; omega, fun i x hx => ?_⟩
  have hi := (List.getElem?_eq_some_iff.mp hx).1
  rw [h5 i x hx, List.getD_eq_getElem?_getD, List.getD_eq_getElem?_getD, List.getElem?_append_left (by omega)]
theorem PrePk.nil (one : List Nat) : PrePk one [] [] 0 := ⟨List.Pairwise.nil, by simp, Nat.zero_le _, rfl, by simp⟩
theorem PrePk.snoc {one pre q : List Nat} {b c k : Nat} (h : PrePk one pre q b) (hk : k ∈ spots one b c) : PrePk one (pre ++ [c]) (q ++ [k]) (k + 1) := by
  obtain ⟨h1, h2, h3, h4, h5⟩ := h
  obtain ⟨k1, k2, k3⟩ := mem_spots hk
  refine ⟨?_, fun x hx => ?_, k2, by simp [h4], fun i x hx => ?_⟩
  · rw [List.pairwise_append]
    exact ⟨h1, by simp, fun x hx y hy => by simp at hy; subst hy; exact Nat.lt_of_lt_of_le (h2 x hx) k1⟩
  · rw [List.mem_append] at hx
    rcases hx with hx | hx
    · have := h2 x hx; omega
    · simp at hx; omega
  · by_cases hi : i < q.length
    · rw [List.getElem?_append_left hi] at hx
      rw [h5 i x hx, List.getD_eq_getElem?_getD, List.getD_eq_getElem?_getD, List.getElem?_append_left (by omega)]
    · have e : i = q.length := by
        have := (List.getElem?_eq_some_iff.mp hx).1
        simp at this; omega
      subst e
      rw [List.getElem?_append_right (Nat.le_refl _), Nat.sub_self] at hx
      simp at hx
      subst hx
      rw [k3, List.getD_eq_getElem?_getD, h4, List.getElem?_append_right (Nat.le_refl _), Nat.sub_self]; rfl
theorem spots_step {one : List Nat} {b : Nat} (c : Nat) (h : b < one.length) : spots one b c = if one[b] = c then b :: spots one (b + 1) c else spots one (b + 1) c := by
  unfold spots
  obtain ⟨k, hk⟩ : ∃ k, one.length - b = k + 1 := ⟨one.length - b - 1, by omega⟩
  have hk' : one.length - (b + 1) = k := by omega
  rw [hk, hk', List.range_succ_eq_map, List.map_cons, List.map_map, List.filter_cons, Nat.add_zero]
  have e : ((fun x => b + x) ∘ Nat.succ) = fun x => b + 1 + x := by funext x; simp; omega
  rw [e]
  have e2 : one.getD b 0 = one[b] := by rw [List.getD_eq_getElem?_getD, List.getElem?_eq_getElem h]; rfl
  rw [e2]
  by_cases hc : one[b] = c <;> simp [hc]
theorem spots_end {one : List Nat} {b : Nat} (c : Nat) (h : one.length ≤ b) : spots one b c = [] := by
  unfold spots; rw [Nat.sub_eq_zero_of_le h]; rfl
theorem fp_spots (one : List Nat) (c : Nat) (r : List Nat) : ∀ (m b : Nat), one.length - b = m → fp one (c :: r) b = match spots one b c with | [] => [] | k :: _ => k :: fp one r (k + 1)
  | 0, b, h => by rw [fp_end _ _ _ (by omega), spots_end _ (by omega)]
  | m + 1, b, h => by
    rw [fp_step _ _ _ _ (by omega), spots_step c (by omega)]
    by_cases e : one[b]'(by omega) = c
    · rw [if_pos e, if_pos e]
    · rw [if_neg e, if_neg e]; exact fp_spots one c r m (b + 1) (by omega)
theorem PrePk.fp {one : List Nat} : ∀ {r pre q : List Nat} {b : Nat}, PrePk one pre q b → PkOk one (pre ++ r) (q ++ fp one r b)
  | [], pre, q, b, h => by rw [fp_nilR, List.append_nil q]; exact h.ok
  | c :: r, pre, q, b, h => by
    rw [fp_spots one c r _ b rfl]
    cases hs : spots one b c with
    | nil => rw [List.append_nil q]; exact h.ok
    | cons k ks =>
      have := (h.snoc (c := c) (k := k) (by rw [hs]; simp)).fp (r := r)
      rw [List.append_assoc, List.append_assoc] at this
      exact this
end DL

namespace DL
open PySem PySem.Spec PyProof.Rows L2
theorem PksG.len : ∀ {ws ps : List (List Nat)}, PksG ws ps → ps.length + 1 = ws.length
  | [], _, h => h.elim
  | [_], [], _ => rfl
  | [_], _ :: _, h => h.elim
  | _ :: _ :: _, [], h => h.elim
  | _ :: v :: ws, _ :: ps, h => by
    have := PksG.len (ws := v :: ws) (ps := ps) h.2
    simp at this ⊢; exact this
theorem PksG.mem : ∀ {ws ps : List (List Nat)}, PksG ws ps → ∀ q ∈ ps, ∃ one ∈ ws, ∃ other ∈ ws, PkOk one other q
  | [], _, h => h.elim
  | [_], [], _ => by simp
  | [_], _ :: _, h => h.elim
  | _ :: _ :: _, [], h => h.elim
  | w :: v :: ws, p :: ps, h => fun q hq => by
    rcases List.mem_cons.mp hq with rfl | hq
    · exact ⟨w, by simp, v, by simp, h.1⟩
    · obtain ⟨a, ha, b, hb, e⟩ := PksG.mem (ws := v :: ws) (ps := ps) h.2 q hq
      exact ⟨a, List.mem_cons_of_mem _ ha, b, List.mem_cons_of_mem _ hb, e⟩
theorem PksG.small {n m : Nat} {ws ps : List (List Nat)} (hs : Shts n m ws) (hm : m ≤ 30) (h : PksG ws ps) : ∀ q ∈ ps, (∀ x ∈ q, x < 30) ∧ q.length ≤ m := fun q hq => by
  obtain ⟨one, h1, other, h2, _, a, b, _⟩ := h.mem q hq
  have h3 := (hs.2.2 one h1).2
  have h4 := (hs.2.2 other h2).2
  exact ⟨fun x hx => by have := a x hx; omega, by omega⟩
end DL

namespace DL
open PySem PySem.Spec PyProof.Rows L2
theorem atI_str {ws : List (List Nat)} {p : Nat} (hp : p < ws.length) : atI (ws.map D.str) (p : Int) = some (.str (ws.getD p [])) := by
  rw [atI_nat, List.getElem?_map, List.getElem?_eq_getElem hp, getD_lt hp]; rfl
theorem Jar.kpE {j c : Addr} {b : Nat} {μ μ' : Sto} (h : Jar j c b μ) (g : ∀ a, μ a ≠ none → μ' a = μ a) : Jar j c b μ' := by
  obtain ⟨n, cells, h1, h2, h3, h4, h5⟩ := h
  exact ⟨n, cells, h1, h2, by rw [g j (by rw [h3]; simp)]; exact h3, by rw [g c (by rw [h4]; simp)]; exact h4, h5⟩
theorem best_goE {ws : List (List Nat)} {j c : Addr} {b : Nat} {μ : Sto} {Q : DK} {E : DXK} (hS : ShOk ws) (hn : ws.length ≤ 8) (h0 : 0 < ws.length) (hJ : Jar j c b μ) (q : ∀ o μ', IsBest ws o → Jar j c b μ' → Q (.tup (nats o)) μ') : sp_best_order [shD ws] μ Q E :=
  ⟨ws, rfl, hS, hn, h0, fun o μ' hb g => q o μ' hb (hJ.kpE g)⟩
theorem rep_nats {o : List Nat} (h : o.length ≤ 20) (hx : ∀ x ∈ o, x < 100) : Shw 1220 1 (.tup (nats o)) :=
  shw_tup (n := 20) (shw_nats (l := o) (n := 20) (fun x hx' => by have := hx x hx'; omega) h) (by simpa [nats] using h)
end DL

namespace DL
open PySem PySem.Spec PyProof.Rows L2
mutual
theorem nk_is {P : Program} {w : World} {H : Hp} {h : Heap} (hok : HOk P w H h) : ∀ (k : NestedKey) (v : V) (u : Value), nkAt H k v → RelV v u → NestedIs h k u
  | .num i, v, u, x, r => by
    rw [nkAt] at x
    subst x
    obtain ⟨t, rfl⟩ := r
    exact .int i t
  | .tup ks, v, u, x, r => by
    rw [nkAt] at x
    obtain ⟨a, ob, vs, rfl, e, z⟩ := x
    cases (show u = Value.ref a from r)
    obtain ⟨h1, _, its, rv, ot, g, hc, n, hd⟩ := hok a _ e
    exact .tup g hc hd (nks_is hok ks vs _ z (by simpa using rv))
  | .none, _, _, x, _ => by rw [nkAt] at x; exact x.elim
  | .text _, _, _, x, _ => by rw [nkAt] at x; exact x.elim
theorem nks_is {P : Program} {w : World} {H : Hp} {h : Heap} (hok : HOk P w H h) : ∀ (ks : List NestedKey) (vs : List V) (us : List Value), nksAt H ks vs → Vals vs us → NestedAll h ks us
  | [], vs, us, x, r => by
    rw [nksAt] at x
    subst x
    cases r
    exact .nil
  | k :: ks, vs, us, x, r => by
    rw [nksAt] at x
    obtain ⟨v, l, rfl, y, z⟩ := x
    cases r with
    | cons r1 r2 => exact .cons (nk_is hok k v _ y r1) (nks_is hok ks l _ z r2)
end
mutual
theorem nk_hash {H : Hp} (w w' : World) : ∀ (k : NestedKey) (v : V), nkAt H k v → k.hash w = k.hash w'
  | .num i, v, x => rfl
  | .tup ks, v, x => by
    rw [nkAt] at x
    obtain ⟨a, ob, vs, rfl, e, z⟩ := x
    rw [NestedKey.hash, NestedKey.hash, nks_hash w w' ks vs z]
  | .none, _, x => by rw [nkAt] at x; exact x.elim
  | .text _, _, x => by rw [nkAt] at x; exact x.elim
theorem nks_hash {H : Hp} (w w' : World) : ∀ (ks : List NestedKey) (vs : List V), nksAt H ks vs → NestedKey.hashes w ks = NestedKey.hashes w' ks
  | [], vs, x => rfl
  | k :: ks, vs, x => by
    rw [nksAt] at x
    obtain ⟨v, l, rfl, y, z⟩ := x
    rw [NestedKey.hashes, NestedKey.hashes, nk_hash w w' k v y, nks_hash w w' ks l z]
end
abbrev RN : NestedKey × Addr × V → NestedKey × Addr × Value → Prop := fun p q => p.1 = q.1 ∧ p.2.1 = q.2.1 ∧ RelV p.2.2 q.2.2
abbrev KeysN (H : Hp) (vs : List (NestedKey × Addr × V)) : Prop := ∀ x ∈ vs, x.1.depth ≤ 8 ∧ nkAt H x.1 (.ref x.2.1)
def putNV (vs : List (NestedKey × Addr × V)) (k : NestedKey) (ka : Addr) (v : V) : List (NestedKey × Addr × V) :=
  if vs.any fun x => decide (x.1 = k) then vs.map fun x => if x.1 = k then (x.1, x.2.1, v) else x else vs ++ [(k, ka, v)]
theorem rn_mem : ∀ {vs : List (NestedKey × Addr × V)} {xs : List (NestedKey × Addr × Value)}, Paired RN vs xs → ∀ x ∈ xs, ∃ v ∈ vs, v.1 = x.1 ∧ v.2.1 = x.2.1
  | _, _, .nil, x, hx => by cases hx
  | v :: vs, y :: xs, .cons h r, x, hx => by
    rcases List.mem_cons.mp hx with rfl | hx
    · exact ⟨v, List.mem_cons_self .., h.1, h.2.1⟩
    · obtain ⟨z, h1, h2⟩ := rn_mem r x hx
      exact ⟨z, List.mem_cons_of_mem _ h1, h2⟩
theorem rn_find {k : NestedKey} : ∀ {vs : List (NestedKey × Addr × V)} {xs : List (NestedKey × Addr × Value)}, Paired RN vs xs → ∀ {p}, vs.find? (fun z => decide (z.1 = k)) = some p → ∃ q, atKey xs k = some q ∧ RelV p.2.2 q.2
  | _, _, .nil, p, e => by simp at e
  | v :: vs, x :: xs, .cons h r, p, e => by
    by_cases ek : v.1 = k
    · rw [List.find?_cons_of_pos (by simpa using ek)] at e
      cases e
      refine ⟨x.2, ?_, h.2.2⟩
      unfold atKey
      rw [List.find?_cons_of_pos (by simpa [← h.1] using ek)]
      rfl
    · rw [List.find?_cons_of_neg (by simpa using ek)] at e
      obtain ⟨q, h1, h2⟩ := rn_find r e
      refine ⟨q, ?_, h2⟩
      unfold atKey at h1 ⊢
      rw [List.find?_cons_of_neg (by simpa [← h.1] using ek)]
      exact h1
theorem rn_any {k : NestedKey} : ∀ {vs : List (NestedKey × Addr × V)} {xs : List (NestedKey × Addr × Value)}, Paired RN vs xs → (vs.any fun x => decide (x.1 = k)) = (atKey xs k).isSome
  | _, _, .nil => rfl
  | v :: vs, x :: xs, .cons h r => by
    have ih := rn_any (k := k) r
    unfold atKey at ih ⊢
    by_cases ek : v.1 = k
    · rw [List.find?_cons_of_pos (by simpa [← h.1] using ek), List.any_cons]
      simp [ek]
    · rw [List.find?_cons_of_neg (by simpa [← h.1] using ek), List.any_cons, ih]
      simp [ek]
theorem rn_map {k : NestedKey} {v : V} {u : Value} (r0 : RelV v u) : ∀ {vs : List (NestedKey × Addr × V)} {xs : List (NestedKey × Addr × Value)}, Paired RN vs xs → Paired RN (vs.map fun x => if x.1 = k then (x.1, x.2.1, v) else x) (xs.map (putAt k u))
  | _, _, .nil => .nil
  | v0 :: vs, x :: xs, .cons h r => by
    rw [List.map_cons, List.map_cons]
    refine .cons ?_ (rn_map r0 r)
    unfold putAt
    by_cases ek : v0.1 = k
    · rw [if_pos ek, if_pos (by rw [← h.1]; exact ek)]
      exact ⟨h.1, h.2.1, r0⟩
    · rw [if_neg ek, if_neg (by rw [← h.1]; exact ek)]
      exact h
theorem rn_app : ∀ {vs ws : List (NestedKey × Addr × V)} {xs ys : List (NestedKey × Addr × Value)}, Paired RN vs xs → Paired RN ws ys → Paired RN (vs ++ ws) (xs ++ ys)
  | _, _, _, _, .nil, s => s
  | _, _, _, _, .cons h r, s => .cons h (rn_app r s)
theorem rn_put {k : NestedKey} {ka : Addr} {v : V} {u : Value} (r0 : RelV v u) {vs : List (NestedKey × Addr × V)} {xs : List (NestedKey × Addr × Value)} (r : Paired RN vs xs) : Paired RN (putNV vs k ka v) (storedH xs k ka u) := by
  unfold putNV storedH
  rw [rn_any (k := k) r]
  split
  · exact rn_map r0 r
  · exact rn_app r (.cons ⟨rfl, rfl, r0⟩ .nil)
theorem rn_len {vs : List (NestedKey × Addr × V)} {xs : List (NestedKey × Addr × Value)} (r : Paired RN vs xs) : vs.length = xs.length := Paired.length r
theorem keysN_put {H : Hp} {vs : List (NestedKey × Addr × V)} {k : NestedKey} {ka : Addr} {v : V} (h : KeysN H vs) (hd : k.depth ≤ 8) (hk : nkAt H k (.ref ka)) : KeysN H (putNV vs k ka v) := by
  intro x hx
  unfold putNV at hx
  split at hx
  · obtain ⟨y, hy, rfl⟩ := List.mem_map.mp hx
    split
    · exact h y hy
    · exact h y hy
  · rcases List.mem_append.mp hx with hx | hx
    · exact h x hx
    · rw [List.mem_singleton.mp hx]
      exact ⟨hd, hk⟩
theorem dnn_stay {a : Addr} {vs : List (NestedKey × Addr × V)} {P : Program} {w : World} {H : Hp} {h : Heap} {o : Obj} {es : Array DictEntry} {ep : Nat} {xs : List (NestedKey × Addr × Value)} (h1 : h.get? a = some o) (h2 : o.ExactDict) (h3 : o.data = .dict es ep) (h4 : Paired RN vs xs)
    (h5 : ∀ w : World, es.toList = xs.map fun x => ⟨x.1.hash w, .ref x.2.1, x.2.2⟩) (h6 : (xs.map (·.1)).Nodup) : ObjOk P w H h a (dnnO a vs) :=
  ⟨⟨o, es, ep, xs, h1, h2, h3, h4, h5, h6⟩, ⟨o, h1⟩, fun g1 g2 ⟨o', es', ep', xs', k1, k2, k3, k4, k5, k6⟩ st => ⟨o', es', ep', xs', st _ k1, k2, k3, k4, k5, k6⟩⟩
section
variable {X : Cx} {pins : List (Addr × Obj)} {σ : L2.St} {H : Hp} {s : Shared} {a : Addr} {vs : List (NestedKey × Addr × V)}
theorem nn_of (I : Inv X pins σ H s) (e : H a = some (dnnO a vs)) (hk : KeysN H vs) : ∃ xs, Paired RN vs xs ∧ s.heap.DictOfH (nestedKind X.prog X.w) a xs := by
  obtain ⟨⟨o, es, ep, xs, h1, h2, h3, h4, h5, h6⟩, _, _⟩ := I.hok a _ e
  refine ⟨xs, h4, o, es, ep, h1, h2, h3, h5 X.w, fun x hx => ?_, h6⟩
  obtain ⟨v, hv, e1, e2⟩ := rn_mem h4 x hx
  obtain ⟨k1, k2⟩ := hk v hv
  rw [← e1, ← e2]
  exact ⟨nk_is I.hok _ _ _ k2 rfl, k1⟩
/-- {}, whose keys will be such tuples -/
def tNNew : TE := fun _ H Q => ∀ p, H p = none → Q (.ref p) (upd H p (dnnO p []))
theorem pe_nnew {pos : Pos} : PE X (.Dict [] [] pos) tNNew := ⟨fun pins s σ H Q I h =>
  wpAny_Dict_empty ⟨.ref s.heap.objs.size, _, I.laid (a := s.heap.objs.size) (o := dnnO s.heap.objs.size []) (t' := s.toks) (fun _ _ q => Heap.get?_push_of_some _ q) (Nat.le_refl _)
    (dnn_stay (es := #[]) (ep := 0) (xs := []) (Heap.get?_push_size _ rfl) ⟨rfl, rfl, rfl⟩ rfl .nil (fun _ => rfl) List.nodup_nil), rfl, h _ (I.hok.fresh (Nat.le_refl _))⟩⟩
/-- d[k] -/
def tNGet (td ty : TE) : TE := fun σ H Q => td σ H fun x H1 => ty σ H1 fun y H2 => ∃ a vs k ka p, x = .ref a ∧ H2 a = some (dnnO a vs) ∧ KeysN H2 vs ∧ y = .ref ka ∧ nkAt H2 k (.ref ka) ∧ k.depth ≤ 8 ∧ vs.find? (fun z => decide (z.1 = k)) = some p ∧ Q p.2.2 H2
theorem pe_nget {o i : Expr} {td ty : TE} {pos : Pos} (hu : X.A.units + 64 < cLine) (ho : PE X o td) (hi : PE X i ty) (hs : NoSl i) : PE X (.Subscript o i pos) (tNGet td ty) := by
  refine ⟨fun pins s σ H Q I h => ?_⟩
  refine subD_of PySem.F.slot_dict_getitem.lookup hs (thn (ho.run pins s σ H _ I h) fun u s1 ⟨x, H1, I1, rx, q1⟩ => thn (hi.run pins s1 σ H1 _ I1 q1) fun iv s2 ⟨y, H2, I2, ry, a, vs, k, ka, p, ex, e, hk, ey, hy, hd, hf, q2⟩ => ?_)
  subst ex ey
  obtain rfl : u = Value.ref a := rx
  obtain rfl : iv = Value.ref ka := ry
  obtain ⟨xs, rel, dd⟩ := nn_of I2 e hk
  obtain ⟨q, hq, rq⟩ := rn_find rel hf
  exact ⟨dd.typeIs, wpAny_getItem_heap (knd := nestedKind X.prog X.w) (by show X.A.units + 1 + 8 < cLine; omega) ⟨nk_is I2.hok k _ _ hy rfl, hd⟩ dd hq ⟨p.2.2, H2, I2.tok _, rq, q2⟩⟩
/-- d[k] = v -/
def sNPut (td ty tv : TE) : TS := fun D σ H => tv σ H fun v H1 => td σ H1 fun x H2 => ty σ H2 fun y H3 => ∃ a vs k ka, x = .ref a ∧ H3 a = some (dnnO a vs) ∧ KeysN H3 vs ∧ y = .ref ka ∧ nkAt H3 k (.ref ka) ∧ k.depth ≤ 8 ∧ vs.length < sizeLine ∧ D.nx σ (upd H3 a (dnnO a (putNV vs k ka v)))
theorem ps_nput {o i value : Expr} {td ty tv : TE} {pos pos' : Pos} (hu : X.A.units + 64 < cLine) (ho : PE X o td) (hi : PE X i ty) (hv : PE X value tv) (hs : swapsWith value (some (.Subscript o i pos')) pos.line X.env = pure false) :
    PS X (.Assign [.Subscript o i pos'] value pos) (sNPut td ty tv) := by
  refine ⟨fun pins s σ H D I h => ?_⟩
  refine wpAny_Assign_Subscript (thn (hv.run pins s σ H _ I h) fun r s1 ⟨v, H1, I1, rv, q1⟩ => thn (ho.run pins s1 σ H1 _ I1 q1) fun u s2 ⟨x, H2, I2, rx, q2⟩ => thn (hi.run pins s2 σ H2 _ I2 q2) fun iv s3 ⟨y, H3, I3, ry, a, vs, k, ka, ex, e, hk, ey, hy, hd, hl, q3⟩ => ?_) hs
  subst ex ey
  obtain rfl : u = Value.ref a := rx
  obtain rfl : iv = Value.ref ka := ry
  obtain ⟨xs, rel, dd⟩ := nn_of I3 e hk
  have hz : xs.length ≤ sizeLine := by rw [← rn_len rel]; omega
  refine wpAny_setItem_heap (knd := nestedKind X.prog X.w) (hsz := hz) (by show X.A.units + 1 + 8 < cLine; omega) ⟨nk_is I3.hok k _ _ hy rfl, hd⟩ dd fun h' dd' hsm => ?_
  obtain ⟨ob, es, ep, g1, g2, g3, g4, g5, g6⟩ := dd'
  have rel' := rn_put (k := k) (ka := ka) rv rel
  have kn := keysN_put (v := v) hk hd hy
  refine ⟨σ, _, d_write I3 (a := a) (ob := dnnO a (putNV vs k ka v)) (by rw [e]; exact True.intro) hsm ⟨ob, g1⟩ (dnn_stay g1 g2 g3 rel' (fun w => ?_) g6), q3⟩
  rw [g4]
  refine List.map_congr_left fun x hx => ?_
  obtain ⟨v0, hv0, e1, e2⟩ := rn_mem rel' x hx
  have := nk_hash X.w w _ _ (kn v0 hv0).2
  rw [e1] at this
  show (⟨x.1.hash X.w, _, _⟩ : DictEntry) = _
  rw [this]
end
mutual
/-- data as a key -/
def keyN : D → Option NestedKey
  | .int i => some (.num i)
  | .tup ds => (keysN ds).map .tup
  | .non => none | .bl _ => none | .str _ => none | .lst _ => none | .dct _ => none | .scr _ => none | .ref _ => none | .ty _ => none | .gl _ => none | .pr _ _ => none | .obj _ _ => none | .exn _ _ => none
def keysN : List D → Option (List NestedKey)
  | [] => some []
  | d :: ds => (keyN d).bind fun k => (keysN ds).map (k :: ·)
end
def valN (kvs : List (NestedKey × D)) (k : NestedKey) : Option D := (kvs.find? fun kv => decide (kv.1 = k)).map (·.2)
def putN (kvs : List (NestedKey × D)) (k : NestedKey) (d : D) : List (NestedKey × D) := if kvs.any fun kv => decide (kv.1 = k) then kvs.map fun kv => if kv.1 = k then (kv.1, d) else kv else kvs ++ [(k, d)]
theorem putN_len (kvs : List (NestedKey × D)) (k : NestedKey) (d : D) : (putN kvs k d).length ≤ kvs.length + 1 := by
  unfold putN
  split
  · rw [List.length_map]; omega
  · rw [List.length_append]; exact Nat.le_refl _
theorem valN_put_same : ∀ (kvs : List (NestedKey × D)) (k : NestedKey) (d : D), valN (putN kvs k d) k = some d := by
  intro kvs k d
  unfold putN
  split
  · rename_i h
    induction kvs with
    | nil => simp at h
    | cons x xs ih =>
      unfold valN at ih ⊢
      by_cases e : x.1 = k
      · simp [e]
      · rw [List.map_cons, if_neg e, List.find?_cons_of_neg (by simpa using e)]
        refine ih ?_
        rw [List.any_cons] at h
        simpa [e] using h
  · rename_i h
    unfold valN
    rw [List.find?_append]
    have : kvs.find? (fun kv => decide (kv.1 = k)) = none := by
      rw [List.find?_eq_none]
      intro x hx hk
      exact h (List.any_eq_true.mpr ⟨x, hx, hk⟩)
    rw [this]
    simp
theorem valN_put_ne {k j : NestedKey} (ne : j ≠ k) (d : D) : ∀ (kvs : List (NestedKey × D)), valN (putN kvs k d) j = valN kvs j := by
  intro kvs
  unfold putN
  split
  · rename_i h
    clear h
    induction kvs with
    | nil => rfl
    | cons x xs ih =>
      unfold valN at ih ⊢
      rw [List.map_cons]
      by_cases e : x.1 = k
      · rw [if_pos e, List.find?_cons_of_neg (by simpa [e] using Ne.symm ne), List.find?_cons_of_neg (by simpa [e] using Ne.symm ne)]
        exact ih
      · rw [if_neg e]
        by_cases ej : x.1 = j
        · rw [List.find?_cons_of_pos (by simpa using ej), List.find?_cons_of_pos (by simpa using ej)]
        · rw [List.find?_cons_of_neg (by simpa using ej), List.find?_cons_of_neg (by simpa using ej)]
          exact ih
  · unfold valN
    rw [List.find?_append]
    cases h : kvs.find? (fun kv => decide (kv.1 = j)) with
    | some p => rfl
    | none => simp [Ne.symm ne]
section
variable {K : PySem.W.Frag} {mg : Str → Option Value} {F H : Hp} {μ : Sto}
mutual
theorem dt_nk : ∀ (d : D) (v : V) (k : NestedKey), Dt K mg F v d → keyN d = some k → nkAt F k v
  | .int i, v, k, h, e => by
    rw [keyN] at e
    cases e
    cases h
    rw [nkAt]
  | .tup ds, v, k, h, e => by
    rw [keyN] at e
    cases hk : keysN ds with
    | none => rw [hk] at e; cases e
    | some ks =>
      rw [hk] at e
      cases e
      cases h with
      | tup p r =>
        obtain ⟨ob, _, h2⟩ := p
        rw [nkAt]
        exact ⟨_, ob, _, rfl, h2, dts_nk ds _ ks r hk⟩
  | .non, _, _, _, e => by rw [keyN] at e; cases e
  | .bl _, _, _, _, e => by rw [keyN] at e; cases e
  | .str _, _, _, _, e => by rw [keyN] at e; cases e
  | .lst _, _, _, _, e => by rw [keyN] at e; cases e
  | .dct _, _, _, _, e => by rw [keyN] at e; cases e
  | .scr _, _, _, _, e => by rw [keyN] at e; cases e
  | .ref _, _, _, _, e => by rw [keyN] at e; cases e
  | .ty _, _, _, _, e => by rw [keyN] at e; cases e
  | .gl _, _, _, _, e => by rw [keyN] at e; cases e
  | .pr _ _, _, _, _, e => by rw [keyN] at e; cases e
  | .obj _ _, _, _, _, e => by rw [keyN] at e; cases e
  | .exn _ _, _, _, _, e => by rw [keyN] at e; cases e
theorem dts_nk : ∀ (ds : List D) (vs : List V) (ks : List NestedKey), Dts K mg F vs ds → keysN ds = some ks → nksAt F ks vs
  | [], vs, ks, h, e => by
    rw [keysN] at e
    cases e
    cases h
    rw [nksAt]
  | d :: ds, vs, ks, h, e => by
    rw [keysN] at e
    cases h1 : keyN d with
    | none => rw [h1] at e; cases e
    | some k =>
      rw [h1] at e
      cases h2 : keysN ds with
      | none => rw [h2] at e; cases e
      | some l =>
        rw [h2] at e
        have e : some (k :: l) = some ks := e
        cases e
        cases h with
        | cons a b =>
          rw [nksAt]
          exact ⟨_, _, rfl, dt_nk d _ k a h1, dts_nk ds _ l b h2⟩
end
/-- the values lie beside the keys -/
theorem kn_find {k : NestedKey} {d : D} : ∀ {vs : List (NestedKey × Addr × V)} {kvs : List (NestedKey × D)}, vs.map (·.1) = kvs.map (·.1) → Dts K mg F (vs.map (·.2.2)) (kvs.map (·.2)) → valN kvs k = some d → ∃ p, vs.find? (fun z => decide (z.1 = k)) = some p ∧ Dt K mg F p.2.2 d
  | [], [], _, _, e => by cases e
  | [], _ :: _, h, _, _ => by cases h
  | _ :: _, [], h, _, _ => by cases h
  | v :: vs, x :: kvs, h, r, e => by
    rw [List.map_cons, List.map_cons] at h r
    injection h with h1 h2
    cases r with
    | cons r1 r2 =>
      unfold valN at e
      by_cases ek : v.1 = k
      · rw [List.find?_cons_of_pos (by simpa [← h1] using ek)] at e
        cases e
        exact ⟨v, List.find?_cons_of_pos (by simpa using ek), r1⟩
      · rw [List.find?_cons_of_neg (by simpa [← h1] using ek)] at e
        rw [List.find?_cons_of_neg (by simpa using ek)]
        exact kn_find h2 r2 e
theorem kn_rep {k : NestedKey} {v : V} {d : D} (h0 : Dt K mg F v d) : ∀ {vs : List (NestedKey × Addr × V)} {kvs : List (NestedKey × D)}, vs.map (·.1) = kvs.map (·.1) → Dts K mg F (vs.map (·.2.2)) (kvs.map (·.2)) →
    (vs.map fun x => if x.1 = k then (x.1, x.2.1, v) else x).map (·.1) = (kvs.map fun kv => if kv.1 = k then (kv.1, d) else kv).map (·.1) ∧ Dts K mg F ((vs.map fun x => if x.1 = k then (x.1, x.2.1, v) else x).map (·.2.2)) ((kvs.map fun kv => if kv.1 = k then (kv.1, d) else kv).map (·.2))
  | [], [], _, _ => ⟨rfl, .nil⟩
  | [], _ :: _, h, _ => by cases h
  | _ :: _, [], h, _ => by cases h
  | x :: vs, y :: kvs, h, r => by
    rw [List.map_cons, List.map_cons] at h r
    injection h with h1 h2
    cases r with
    | cons r1 r2 =>
      obtain ⟨i1, i2⟩ := kn_rep (k := k) h0 h2 r2
      rw [List.map_cons, List.map_cons, List.map_cons, List.map_cons, List.map_cons, List.map_cons, i1]
      by_cases ek : x.1 = k
      · rw [if_pos ek, if_pos (by rw [← h1]; exact ek)]
        exact ⟨by rw [h1], .cons h0 i2⟩
      · rw [if_neg ek, if_neg (by rw [← h1]; exact ek)]
        exact ⟨by rw [h1], .cons r1 i2⟩
theorem kn_any {k : NestedKey} : ∀ {vs : List (NestedKey × Addr × V)} {kvs : List (NestedKey × D)}, vs.map (·.1) = kvs.map (·.1) → (vs.any fun x => decide (x.1 = k)) = kvs.any fun x => decide (x.1 = k)
  | [], [], _ => rfl
  | [], _ :: _, h => by cases h
  | _ :: _, [], h => by cases h
  | x :: vs, y :: kvs, h => by
    rw [List.map_cons, List.map_cons] at h
    injection h with h1 h2
    rw [List.any_cons, List.any_cons, kn_any h2, h1]
theorem kn_put {k : NestedKey} {ka : Addr} {v : V} {d : D} (h0 : Dt K mg F v d) {vs : List (NestedKey × Addr × V)} {kvs : List (NestedKey × D)} (h : vs.map (·.1) = kvs.map (·.1)) (r : Dts K mg F (vs.map (·.2.2)) (kvs.map (·.2))) :
    (putNV vs k ka v).map (·.1) = (putN kvs k d).map (·.1) ∧ Dts K mg F ((putNV vs k ka v).map (·.2.2)) ((putN kvs k d).map (·.2)) := by
  unfold putNV putN
  rw [kn_any (k := k) h]
  split
  · exact kn_rep h0 h r
  · refine ⟨by rw [List.map_append, List.map_append, h]; rfl, ?_⟩
    rw [List.map_append, List.map_append]
    exact r.append (.cons h0 .nil)
end
section
variable {X : Cx} {B : Bs} {e o i : Expr} {d do' di : TED} {pos : Pos}
/-- {} whose keys will be nested tuples -/
@[simp] def dNewN : TED := fun _ μ Q => ∀ p, μ p = none → Q (.ref p) (sset μ p (.dnn []))
theorem de_newN : DE X (.Dict [] [] pos) dNewN := pe_nnew.weaken fun σ H Q q => by
  obtain ⟨F, ρ, μ, Qd, R, hd, k⟩ := q
  intro p hp
  obtain ⟨hf, hm⟩ := R.ok.fresh hp
  obtain ⟨g1, g2⟩ := R.ok.layM hp (dnnO p []) (.dnn []) ⟨[], upd_same, rfl, .nil, fun x hx => by cases hx⟩
  exact k _ _ _ _ _ g2 g1 (.ref p) (hd p hm)
/-- d[k] -/
@[simp] def dGetN (o i : TED) : TED := fun ρ μ Q => o ρ μ fun x μ1 => i ρ μ1 fun y μ2 => ∃ a kvs ds ks d, x = .ref a ∧ y = .tup ds ∧ μ2 a = some (.dnn kvs) ∧ keysN ds = some ks ∧ (NestedKey.tup ks).depth ≤ 8 ∧ valN kvs (.tup ks) = some d ∧ Q d μ2
theorem de_getN (hu : X.A.units + 64 < cLine) (ho : DW X o do') (hi : DE X i di) (hs : NoSl i := by intro _ _; rfl) : DE X (.Subscript o i pos) (dGetN do' di) := (pe_nget hu ho hi hs).weaken fun σ H Q q => by
  obtain ⟨F, ρ, μ, Qd, R, hd, k⟩ := q
  refine ⟨F, ρ, μ, _, R, hd, fun u F1 μ1 H1 du e1 o1 w1 q1 => ?_⟩
  refine ⟨F1, ρ, μ1, _, R.ext e1 o1, q1, fun v F2 μ2 H2 dv e2 o2 w2 q2 => ?_⟩
  obtain ⟨a, kvs, ds, ks, d, rfl, rfl, hx, hk, hdp, hv, q⟩ := q2
  cases w1.ref
  obtain ⟨vs, h1, h2, h3, h4⟩ := o2.sto _ _ hx
  have nk := dt_nk (.tup ds) v (.tup ks) w2 (by rw [keyN, hk]; rfl)
  obtain ⟨ka, rfl⟩ : ∃ ka, v = .ref ka := by cases w2; exact ⟨_, rfl⟩
  obtain ⟨p, hp, hd2⟩ := kn_find h2 h3 hv
  exact ⟨a, vs, .tup ks, ka, p, rfl, h1, fun z hz => ⟨(h4 z hz).1, nkAt_mono o2.sub _ _ (h4 z hz).2⟩, rfl, nkAt_mono o2.sub _ _ nk, hdp, hp, k _ F2 μ2 _ _ (e1.trans e2) o2 hd2 q⟩
/-- d[k] = v -/
@[simp] def dPutN (d o i : TED) : TSD := fun E ρ μ => d ρ μ fun v μ1 => o ρ μ1 fun x μ2 => i ρ μ2 fun y μ3 => ∃ a kvs ds ks, x = .ref a ∧ y = .tup ds ∧ μ3 a = some (.dnn kvs) ∧ keysN ds = some ks ∧ (NestedKey.tup ks).depth ≤ 8 ∧ kvs.length < SZ ∧ E.nx ρ (sset μ3 a (.dnn (putN kvs (.tup ks) v)))
theorem ds_putN {spos : Pos} (he : DE X e d) (ho : DW X o do') (hi : DE X i di) (hu : X.A.units + 64 < cLine) (hs : swapsWith e (some (.Subscript o i spos)) pos.line X.env = pure false := by rfl) :
    DSt X B (.Assign [.Subscript o i spos] e pos) (dPutN d do' di) := (ps_nput hu ho hi he hs).weaken fun E σ H h => by
  obtain ⟨F, ρ, μ, Dd, R, hd, kn, kb, kc, kr⟩ := h
  refine ⟨F, ρ, μ, _, R.rel, hd, fun v F1 μ1 H1 dv e1 o1 w1 q1 => ?_⟩
  refine ⟨F1, ρ, μ1, _, R.rel.ext e1 o1, q1, fun u F2 μ2 H2 du e2 o2 w2 q2 => ?_⟩
  refine ⟨F2, ρ, μ2, _, R.rel.ext (e1.trans e2) o2, q2, fun y F3 μ3 H3 dy e3 o3 w3 q3 => ?_⟩
  obtain ⟨a, kvs, ds, ks, rfl, rfl, hx, hk, hdp, hkl, q⟩ := q3
  cases w2.ref
  obtain ⟨vs, h1, h2, h3, h4⟩ := o3.sto _ _ hx
  have nk := dt_nk (.tup ds) y (.tup ks) w3 (by rw [keyN, hk]; rfl)
  obtain ⟨ka, rfl⟩ : ∃ ka, y = .ref ka := by cases w3; exact ⟨_, rfl⟩
  have put := kn_put (k := .tup ks) (ka := ka) ((w1.mono e2.mono).mono e3.mono) h2 h3
  have hn : KeysN H3 vs := fun z hz => ⟨(h4 z hz).1, nkAt_mono o3.sub _ _ (h4 z hz).2⟩
  obtain ⟨g1, g2⟩ := o3.write hx (dnnO a (putNV vs (.tup ks) ka v)) (.dnn (putN kvs (.tup ks) dv)) ⟨_, upd_same, put.1, put.2, keysN_put h4 hdp nk⟩
  have e13 := e1.trans (e2.trans e3)
  have hl : vs.length = kvs.length := by have := congrArg List.length h2; simpa using this
  exact ⟨a, vs, .tup ks, ka, rfl, h1, hn, rfl, nkAt_mono o3.sub _ _ nk, hdp, by rw [hl, sizeLine_eq]; exact hkl, kn F3 ρ _ σ _ (e13.trans g2).mono (R.step (e13.trans g2) g1) q⟩
end
end DL

namespace DL
open PySem PySem.Spec PyProof.Rows L2
def lastS (s : List Nat) : Nat := s.getD (s.length - 1) 0
def nxtS (n : Nat) (s : List Nat) : List (List Nat) := (List.range (n - (lastS s + 1))).map fun i => s ++ [lastS s + 1 + i]
def setsA (n : Nat) : Nat → List (List Nat)
  | 0 => (List.range n).map fun i => [i]
  | t + 1 => (setsA n t).flatMap (nxtS n)
theorem setsA_p1 : ∀ n < 9, ∀ t < 8, ∀ s ∈ setsA n t, s.Pairwise (· < ·) := by decide +kernel
theorem setsA_p2 : ∀ n < 9, ∀ t < 8, ∀ s ∈ setsA n t, ∀ x ∈ s, x < n := by decide +kernel
theorem setsA_p3 : ∀ n < 9, ∀ t < 8, ∀ s ∈ setsA n t, 0 < s.length ∧ s.length ≤ 8 := by decide +kernel
theorem setsA_ok {n : Nat} (hn : n < 9) {t : Nat} (ht : t < 8) {s : List Nat} (h : s ∈ setsA n t) : s.Nodup ∧ (∀ x ∈ s, x < n) ∧ 0 < s.length ∧ s.length ≤ 8 :=
  ⟨(setsA_p1 n hn t ht s h).imp fun h => Nat.ne_of_lt h, setsA_p2 n hn t ht s h, setsA_p3 n hn t ht s h⟩
theorem setsA_less : ∀ n < 9, ∀ t < 7, ∀ s ∈ setsA n (t + 1), ∀ i ∈ s, s.erase i ∈ setsA n t := by decide +kernel
theorem setsA_two : ∀ n < 9, ∀ t < 7, ∀ s ∈ setsA n (t + 1), 2 ≤ s.length := by decide +kernel
theorem setsA_whole : ∀ n < 9, 0 < n → List.range n ∈ setsA n (n - 1) := by decide +kernel
theorem setsA_len : ∀ n < 9, ∀ t < 8, (setsA n t).length ≤ 70 := by decide +kernel
abbrev nkey (s : List Nat) (i : Nat) : NestedKey := .tup [.tup (s.map fun n : Nat => .num (n : Int)), .num (i : Nat)]
theorem nums_inj : ∀ {a b : List Nat}, (a.map fun n : Nat => NestedKey.num (n : Int)) = (b.map fun n : Nat => NestedKey.num (n : Int)) → a = b
  | [], [], _ => rfl
  | [], _ :: _, h => by cases h
  | _ :: _, [], h => by cases h
  | x :: a, y :: b, h => by
    rw [List.map_cons, List.map_cons] at h
    injection h with h1 h2
    injection h1 with h1
    rw [nums_inj h2, show x = y by omega]
theorem nkey_inj {s s' : List Nat} {i i' : Nat} (h : nkey s i = nkey s' i') : s = s' ∧ i = i' := by
  unfold nkey at h
  injection h with h
  injection h with h1 h2
  injection h1 with h1
  injection h2 with h2 _
  injection h2 with h2
  exact ⟨nums_inj h1, by omega⟩
theorem keysN_nats : ∀ l : List Nat, keysN (nats l) = some (l.map fun n : Nat => NestedKey.num (n : Int))
  | [] => by rw [show nats [] = [] from rfl, keysN]; rfl
  | x :: l => by
    rw [show nats (x :: l) = D.int (x : Nat) :: nats l from rfl, keysN, keyN, keysN_nats l]
    rfl
theorem keysN_of (s : List Nat) (i : Nat) : keysN [.tup (nats s), .int (i : Nat)] = some [.tup (s.map fun n : Nat => .num (n : Int)), .num (i : Nat)] := by
  rw [keysN, keyN, keysN_nats, keysN, keyN, keysN]
  rfl
theorem depth_nums : ∀ l : List Nat, NestedKey.depthAll (l.map fun n : Nat => NestedKey.num (n : Int)) = 0
  | [] => rfl
  | x :: l => by rw [List.map_cons, NestedKey.depthAll, NestedKey.depth, depth_nums l]; rfl
theorem depth_nkey (s : List Nat) (i : Nat) : (nkey s i).depth ≤ 8 := by
  unfold nkey
  rw [NestedKey.depth, NestedKey.depthAll, NestedKey.depth, depth_nums, NestedKey.depthAll, NestedKey.depth, NestedKey.depthAll]
  decide
noncomputable def ent (c : Nat → Nat → Nat) (s : List Nat) (i : Nat) : Nat × List Nat := (RR c i (s.erase i), i :: bo c i (s.erase i))
abbrev entD (p : Nat × List Nat) : D := .tup [.int (p.1 : Nat), .tup (nats p.2)]
def Has (c : Nat → Nat → Nat) (kvs : List (NestedKey × D)) (P : List Nat → Nat → Prop) : Prop := ∀ s i, P s i → valN kvs (nkey s i) = some (entD (ent c s i))
theorem Has.put {c : Nat → Nat → Nat} {kvs : List (NestedKey × D)} {P P' : List Nat → Nat → Prop} (h : Has c kvs P) {s : List Nat} {i : Nat} (hp : ∀ s' i', P' s' i' → P s' i' ∨ (s' = s ∧ i' = i)) : Has c (putN kvs (nkey s i) (entD (ent c s i))) P' := by
  intro s' i' h'
  by_cases e : nkey s' i' = nkey s i
  · obtain ⟨rfl, rfl⟩ := nkey_inj e
    exact valN_put_same _ _ _
  · rw [valN_put_ne e]
    rcases hp s' i' h' with h' | ⟨rfl, rfl⟩
    · exact h s' i' h'
    · exact absurd rfl e
theorem Has.sub {c : Nat → Nat → Nat} {kvs : List (NestedKey × D)} {P P' : List Nat → Nat → Prop} (h : Has c kvs P) (hp : ∀ s i, P' s i → P s i) : Has c kvs P' := fun s i x => h s i (hp s i x)
theorem bo_nil (c : Nat → Nat → Nat) (i : Nat) : bo c i [] = [] := (Bst.nil i).bo.symm
theorem ent_one (c : Nat → Nat → Nat) (i : Nat) : ent c [i] i = (0, [i]) := by
  unfold ent
  rw [show [i].erase i = [] by simp, bo_nil]
  rfl
/-- the least of the pairs that go on from the smaller set -/
theorem ent_min {c : Nat → Nat → Nat} {s : List Nat} {i : Nat} (hs : s.erase i ≠ []) {m : Nat × List Nat} (hm : m ∈ (s.erase i).map fun x => (c i x + (ent c (s.erase i) x).1, i :: (ent c (s.erase i) x).2))
    (hle : ∀ y ∈ (s.erase i).map (fun x => (c i x + (ent c (s.erase i) x).1, i :: (ent c (s.erase i) x).2)), ple m y) : m = ent c s i := by
  unfold ent at hm hle ⊢
  generalize s.erase i = T at hs hm hle ⊢
  dsimp only at hm hle
  have hb := bo_bst c i T
  obtain ⟨b1, b2, b3⟩ := hb.prop
  refine ple_antisymm ?_ ?_
  · -- the best order is among them
    have key : (RR c i T, i :: bo c i T) ∈ T.map fun x => (c i x + RR c x (T.erase x), i :: x :: bo c x (T.erase x)) := by
      generalize hbo : bo c i T = o at hb b1 b2 b3
      cases hb with
      | nil => exact absurd rfl hs
      | @cons _ x _ r hx hmin hr =>
        refine List.mem_map.mpr ⟨x, hx, ?_⟩
        rw [← hr.bo, ← b2]
        have : pc c x r = RR c x (T.erase x) := hr.prop.2.1
        rw [← this]
        rfl
    exact hle _ key
  · obtain ⟨x, hx, rfl⟩ := List.mem_map.mp hm
    obtain ⟨d1, d2, d3⟩ := (bo_bst c x (T.erase x)).prop
    have := b3 (x :: bo c x (T.erase x)) ((d1.cons x).trans (List.perm_cons_erase hx).symm)
    unfold ple at this ⊢
    have e : pc c i (x :: bo c x (T.erase x)) = c i x + RR c x (T.erase x) := by rw [← d2]; rfl
    dsimp only at this ⊢
    rw [e, b2] at this
    rcases this with q | ⟨q, q'⟩
    · exact .inl q
    · exact .inr ⟨q, by simp [lle, q']⟩
end DL

namespace DL
open PySem PySem.Spec PyProof.Rows L2
def sp_lawE_less : DSp := fun ds μ Q _ => ∃ w v : List Nat, ds = [.str w, .str v] ∧ w.length ≤ 1000 ∧ v.length ≤ 1000 ∧ Q (.int (cst w v : Nat)) μ
def b_lawE_less_2l : TSD :=
  (dSetR 2 (dVal (dOp rdAdd (dLook 2) (dFn rdInt (dCons (dAndV (dOp rdLt (dLook 2) (dFn rdLen (dCons (dLook 1) dNil))) (dOp rdEq (dSl (dLook 1) (dPart (dVar 2)) (dPart (dOp rdAdd (dLook 2) (dC (.int 1))))) (dLook 3))) dNil)))))
def b_lawE_less_3 : TSD :=
  (dRet (dOp rdSub (dFn rdLen (dCons (dLook 1) dNil)) (dLook 2)))
def b_lawE_less_2 : TSD :=
  (dSeq (dFor (dEach (dVar 0)) (dName 3)
  b_lawE_less_2l)
  b_lawE_less_3)
/-- _law_less(_law_one_here, _law_other); slots 0:_law_one_here 1:_law_other 2:_law_many 3:_law_letter -/
def b_lawE_less : TSD :=
  (dSeq (dSetR 2 (dVal (dC (.int 0))))
  b_lawE_less_2)
/-- the letters of other that are met one after another -/
def lsG (v : List Nat) : List Nat → Nat → Nat
  | [], k => k
  | c :: r, k => lsG v r (if v[k]? = some c then k + 1 else k)
theorem lsG_ge (v : List Nat) : ∀ (w : List Nat) (k : Nat), k ≤ lsG v w k
  | [], _ => Nat.le_refl _
  | c :: r, k => by
    unfold lsG
    split
    · exact Nat.le_trans (Nat.le_succ _) (lsG_ge v r (k + 1))
    · exact lsG_ge v r k
theorem lsG_le (v : List Nat) : ∀ (w : List Nat) (k : Nat), k ≤ v.length → lsG v w k ≤ v.length
  | [], _, h => h
  | c :: r, k, h => by
    unfold lsG
    split
    · rename_i e
      exact lsG_le v r (k + 1) ((List.getElem?_eq_some_iff.mp e).1)
    · exact lsG_le v r k h
theorem lsG_iff (v : List Nat) : ∀ (w : List Nat) (k : Nat), k ≤ v.length → ∀ j, k ≤ j → j ≤ v.length → (((v.take j).drop k).Sublist w ↔ j ≤ lsG v w k)
  | [], k, hk, j, h1, h2 => by
    unfold lsG
    rw [List.sublist_nil]
    constructor
    · intro e
      have := congrArg List.length e
      simp at this
      omega
    · intro e
      exact List.drop_eq_nil_of_le (by simp; omega)
  | c :: r, k, hk, j, h1, h2 => by
    unfold lsG
    by_cases hj : j = k
    · subst hj
      have e : (v.take j).drop j = [] := List.drop_eq_nil_of_le (by simp; omega)
      rw [e]
      refine ⟨fun _ => ?_, fun _ => List.nil_sublist _⟩
      split
      · exact Nat.le_trans (Nat.le_succ _) (lsG_ge v r (j + 1))
      · exact lsG_ge v r j
    · have hkl : k < v.length := by omega
      have e : (v.take j).drop k = v[k] :: (v.take j).drop (k + 1) := by
        rw [List.drop_eq_getElem_cons (by simp; omega), List.getElem_take]
      rw [e]
      by_cases hc : v[k]? = some c
      · rw [if_pos hc, ← lsG_iff v r (k + 1) (by omega) j (by omega) h2]
        have : v[k] = c := by
          rw [List.getElem?_eq_getElem hkl] at hc
          exact Option.some.inj hc
        rw [this]
        exact List.cons_sublist_cons
      · rw [if_neg hc, ← lsG_iff v r k hk j h1 h2, e]
        have : v[k] ≠ c := fun z => hc (by rw [List.getElem?_eq_getElem hkl, z])
        constructor
        · intro h
          cases h with
          | cons _ h => exact h
          | cons_cons _ h => exact absurd rfl this
        · intro h
          exact h.cons _
theorem lsG_fp (w v : List Nat) : lsG v w 0 = (fp w v 0).length := by
  have h1 := lsG_le v w 0 (Nat.zero_le _)
  have h2 : (fp w v 0).length ≤ v.length := fp_le w v 0
  have a := (lsG_iff v w 0 (Nat.zero_le _) _ (Nat.zero_le _) h1).mpr (Nat.le_refl _)
  have b := (fp_iff w v _ h2).mp (Nat.le_refl _)
  have c := (fp_iff w v _ h1).mpr (by simpa using a)
  have d := (lsG_iff v w 0 (Nat.zero_le _) _ (Nat.zero_le _) h2).mp (by simpa using b)
  omega
theorem cut_oneE {α : Type} (v : List α) (k : Nat) (h : k < v.length) : cut v (some (k : Int)) (some ((k : Int) + 1)) = [v[k]] := by
  rw [show ((k : Int) + 1) = ((k + 1 : Nat) : Int) by omega, cut_ab v k (k + 1) (by omega), show k + 1 - k = 1 by omega, List.drop_eq_getElem_cons h]
  rfl
theorem len_lawE_less : ∀ ds μ Q E, sp_lawE_less ds μ Q E → ds.length = 2 := by
  rintro ds μ Q E ⟨w, v, rfl, _⟩; rfl
theorem ok_lawE_less : ∀ ds μ Q E, sp_lawE_less ds μ Q E → b_lawE_less { nx := fun _ μ' => Q .non μ', rt := Q } (startD 4 ds) μ := by
  rintro ds μ Q E ⟨w, v, rfl, hw, hv, q⟩
  unfold b_lawE_less
  rw [dSeq]
  simp [-dSeq]
  unfold b_lawE_less_2
  rw [dSeq]
  simp [-dSeq, -forD]
  show forD _ _ _ _ (w.map fun c => D.str [c]) _ _
  refine forD_list (fun c => D.str [c]) (fun r ρ μ' => μ' = μ ∧ ∃ (k : Nat) (x3 : Option DS), k ≤ v.length ∧ lsG v r k = lsG v w 0 ∧ ρ = [some (.val (.str w)), some (.val (.str v)), some (.val (.int k)), x3]) (fun _ _ _ _ => trivial) ?_ ?_ w _ _ ⟨rfl, 0, none, Nat.zero_le _, rfl, rfl⟩
  · rintro c r ρ μ' n ⟨rfl, k, x3, hk, e, rfl⟩ hn
    rw [show lsG v (c :: r) k = lsG v r (if v[k]? = some c then k + 1 else k) from rfl] at e
    unfold b_lawE_less_2l
    simp
    refine ⟨by omega, ?_⟩
    split
    · rename_i hk2
      refine ⟨by omega, ?_⟩
      rw [cut_oneE v k hk2]
      have h3 : v[k]? = some c ↔ [v[k]] = [c] := by rw [List.getElem?_eq_getElem hk2]; simp
      by_cases hc : [v[k]] = [c]
      · rw [if_pos hc]
        rw [if_pos (h3.mpr hc)] at e
        exact hn _ _ ⟨rfl, k + 1, _, hk2, e, rfl⟩
      · rw [if_neg hc]
        rw [if_neg fun z => hc (h3.mp z)] at e
        exact hn _ _ ⟨rfl, k, some (.val (.str [c])), hk, e, by simp⟩
    · rename_i hk2
      rw [if_neg (by rw [List.getElem?_eq_none (by omega)]; nofun)] at e
      exact hn _ _ ⟨rfl, k, _, hk, e, rfl⟩
  · rintro ρ μ' ⟨rfl, k, x3, hk, e, rfl⟩
    dsimp only
    unfold b_lawE_less_3
    simp
    have e : k = lsG v w 0 := e
    rw [lsG_fp] at e
    subst e
    have h2 : (fp w v 0).length ≤ v.length := fp_le w v 0
    refine ⟨by omega, ?_⟩
    unfold cst at q
    rw [show ((v.length : Int) - ((fp w v 0).length : Nat)) = ((v.length - (fp w v 0).length : Nat) : Int) by omega]
    exact q
end DL

namespace DL
open PySem PySem.Spec PyProof.Rows L2
def sp_law : DSp := fun ds μ Q _ => ∃ ns : List Int, ds = [.scr ns] ∧ ns.length ≤ 63 ∧ ∀ μ', Q (.bl true) μ'
def sp_law_ends : DSp := fun ds μ Q _ => ∃ ws : List (List Nat), ds = [shD ws] ∧ ws.length ≤ 8 ∧ 0 < ws.length ∧ (∀ w ∈ ws, w.length ≤ 1000) ∧ ∀ μ', (∀ a, μ a ≠ none → μ' a = μ a) → Q (.lst ((List.range ws.length).map fun p => entD (ent (cN ws) (List.range ws.length) p))) μ'
def b_law_ends_4l : TSD :=
  (dPutN (dTup (dCons (dC (.int 0)) (dCons (dTup (dCons (dVar 4) dNil)) dNil))) (dLook 3) (dTup (dCons (dTup (dCons (dVar 4) dNil)) (dCons (dVar 4) dNil))))
def b_law_ends_6l_2l : TSD :=
  (dExt 7 (dF (dLc [13] (dRng2 (dCons (dOp rdAdd (dOp rdIx (dLook 8) (dNeg (dC (.int 1)))) (dC (.int 1))) (dCons (dVar 1) dNil))) (dName 13) dYes (dOp rdAdd (dLook 8) (dTup (dCons (dVar 13) dNil))))))
def b_law_ends_6l_4l_1l_4 : TSD :=
  (dPutN (dFn rdMinD (dCons (dLook 11) dNil)) (dLook 3) (dTup (dCons (dVar 8) (dCons (dVar 4) dNil))))
def b_law_ends_6l_4l_1l_3 : TSD :=
  (dSeq (dSetR 11 (dVal (dF (dLc [15] (dEach (dVar 10)) (dName 15) dYes (dTup (dCons (dOp rdAdd (dOp rdIx (dOp rdIx (dLook 2) (dLook 4)) (dOp rdIx (dOp rdIx (dLook 15) (dC (.int 1))) (dC (.int 0)))) (dOp rdIx (dLook 15) (dC (.int 0)))) (dCons (dOp rdAdd (dTup (dCons (dVar 4) dNil)) (dOp rdIx (dLook 15) (dC (.int 1)))) dNil)))))))
  b_law_ends_6l_4l_1l_4)
def b_law_ends_6l_4l_1l_2 : TSD :=
  (dSeq (dSetR 10 (dVal (dF (dLc [13] (dEach (dVar 9)) (dName 13) dYes (dGetN (dLook 3) (dTup (dCons (dVar 9) (dCons (dVar 13) dNil))))))))
  b_law_ends_6l_4l_1l_3)
def b_law_ends_6l_4l_1l : TSD :=
  (dSeq (dSetR 9 (dVal (dFn rdTuple (dCons (dF (dLc [13] (dEach (dVar 8)) (dName 13) (dB (dOp rdNe (dLook 13) (dLook 4))) (dVar 13))) dNil))))
  b_law_ends_6l_4l_1l_2)
def b_law_ends_6l_4l : TSD :=
  (dFor (dEach (dVar 8)) (dName 4)
  b_law_ends_6l_4l_1l)
def b_law_ends_6l_4 : TSD :=
  (dFor (dEach (dVar 5)) (dName 8)
  b_law_ends_6l_4l)
def b_law_ends_6l_3 : TSD :=
  (dSeq (dFreeze 7 (dSetR 5 (dVal (dVar 7))))
  b_law_ends_6l_4)
def b_law_ends_6l_2 : TSD :=
  (dSeq (dFor (dEach (dVar 5)) (dName 8)
  b_law_ends_6l_2l)
  b_law_ends_6l_3)
def b_law_ends_6l : TSD :=
  (dSeq (dSetR 7 (dOwn (dLstF dNil)))
  b_law_ends_6l_2)
def b_law_ends_8 : TSD :=
  (dRet (dF (dLc [4] (dRng1 (dCons (dVar 1) dNil)) (dName 4) dYes (dGetN (dLook 3) (dTup (dCons (dVar 12) (dCons (dVar 4) dNil)))))))
def b_law_ends_7 : TSD :=
  (dSeq (dSetR 12 (dVal (dTRng (dLook 1))))
  b_law_ends_8)
def b_law_ends_6 : TSD :=
  (dSeq (dFor (dRng1 (dCons (dOp rdSub (dLook 1) (dC (.int 1))) dNil)) (dName 6)
  b_law_ends_6l)
  b_law_ends_7)
def b_law_ends_5 : TSD :=
  (dSeq (dSetR 5 (dVal (dF (dLc [4] (dRng1 (dCons (dVar 1) dNil)) (dName 4) dYes (dTup (dCons (dVar 4) dNil))))))
  b_law_ends_6)
def b_law_ends_4 : TSD :=
  (dSeq (dFor (dRng1 (dCons (dVar 1) dNil)) (dName 4)
  b_law_ends_4l)
  b_law_ends_5)
def b_law_ends_3 : TSD :=
  (dSeq (dSetR 3 (dVal dNewN))
  b_law_ends_4)
def b_law_ends_2 : TSD :=
  (dSeq (dSetR 2 (dVal (dF (dLc [13] (dEach (dVar 0)) (dName 13) dYes (dF (dLc [14] (dEach (dVar 0)) (dName 14) dYes (dCall sp_lawE_less (dCons (dVar 13) (dCons (dVar 14) dNil)) noD)))))))
  b_law_ends_3)
/-- _law_ends(_law_words_here); slots 0:_law_words_here 1:_law_many 2:_law_costs 3:_law_found 4:_law_first 5:_law_sets 6:_law_turn 7:_law_greater 8:_law_some 9:_law_rest 10:_law_ends_here 11:_law_pairs 12:_law_whole 13:_law_one_here 14:_law_other 15:_law_end -/
def b_law_ends : TSD :=
  (dSeq (dSetR 1 (dVal (dFn rdLen (dCons (dLook 0) dNil))))
  b_law_ends_2)
def b_law_2l_5 : TSD :=
  (dIfS (dB (dOp rdNe (dFn rdRepr (dCons (dCall sp_best_order (dCons (dVar 3) dNil) noD) dNil)) (dFn rdRepr (dCons (dLook 5) dNil))))
  (dRet (dC (.bl false)))
  dNext)
def b_law_2l_4 : TSD :=
  (dSeq (dSetR 5 (dVal (dOp rdIx (dFn rdMinD (dCons (dF (dLc [7] (dEach (dVar 4)) (dName 7) dYes (dTup (dCons (dOp rdAdd (dFn rdLen (dCons (dOp rdIx (dLook 3) (dOp rdIx (dOp rdIx (dLook 7) (dC (.int 1))) (dC (.int 0)))) dNil)) (dOp rdIx (dLook 7) (dC (.int 0)))) (dCons (dOp rdIx (dLook 7) (dC (.int 1))) dNil))))) dNil)) (dC (.int 1)))))
  b_law_2l_5)
def b_law_2l_3 : TSD :=
  (dSeq (dIfS (dB (dOp rdNe (dFn rdRepr (dCons (dF (dLc [6] (dRng1 (dCons (dFn rdLen (dCons (dLook 3) dNil)) dNil)) (dName 6) dYes (dCall sp_best_after (dCons (dVar 3) (dCons (dVar 6) dNil)) noD))) dNil)) (dFn rdRepr (dCons (dF (dLc [7] (dEach (dVar 4)) (dName 7) dYes (dOp rdIx (dLook 7) (dC (.int 1))))) dNil))))
  (dRet (dC (.bl false)))
  dNext)
  b_law_2l_4)
def b_law_2l_2 : TSD :=
  (dSeq (dSetR 4 (dVal (dCall sp_law_ends (dCons (dVar 3) dNil) noD)))
  b_law_2l_3)
def b_law_2l : TSD :=
  (dSeq (dSetR 3 (dVal (dCall sp_lawE_words (dCons (dVar 1) (dCons (dOp rdIx (dLst (dCons (dC (.int 8)) (dCons (dC (.int 6)) dNil))) (dLook 2)) (dCons (dOp rdIx (dLst (dCons (dC (.int 30)) (dCons (dC (.int 9)) dNil))) (dLook 2)) dNil))) noD)))
  b_law_2l_2)
def b_law_3 : TSD :=
  (dRet (dC (.bl true)))
def b_law_2 : TSD :=
  (dSeq (dFor (dRng1 (dCons (dC (.int 2)) dNil)) (dName 2)
  b_law_2l)
  b_law_3)
/-- law(_law_script); slots 0:_law_script 1:_law_deck_here 2:_law_turn 3:_law_words_here 4:_law_ends_here 5:_law_due 6:_law_first 7:_law_end -/
def b_law : TSD :=
  (dSeq (dSetR 1 (dVal (dCall sp_lawE_deck (dCons (dVar 0) dNil) noD)))
  b_law_2)
theorem len_law_ends : ∀ ds μ Q E, sp_law_ends ds μ Q E → ds.length = 1 := by
  rintro ds μ Q E ⟨ws, rfl, _⟩; rfl
theorem keysN_one (k : Nat) : keysN [.tup [.int (k : Nat)], .int (k : Nat)] = some [.tup ([k].map fun n : Nat => .num (n : Int)), .num (k : Nat)] := keysN_of [k] k
abbrev sD57 (s : List Nat) : D := .tup (nats s)
def Pt57 (n t : Nat) (s : List Nat) (i : Nat) : Prop := ∃ j, j ≤ t ∧ s ∈ setsA n j ∧ i ∈ s
theorem lastS_mem {s : List Nat} (h : 0 < s.length) : lastS s ∈ s := by
  unfold lastS
  rw [List.getD_eq_getElem?_getD, List.getElem?_eq_getElem (by omega)]
  exact List.getElem_mem _
theorem atI_lastS {s : List Nat} (h : 0 < s.length) : atI (nats s) (-1) = some (.int (lastS s : Nat)) := by
  have h' : s ≠ [] := fun e => by subst e; simp at h
  have e := List.dropLast_concat_getLast h'
  have := L2.atI_last (nats s.dropLast) (D.int (s.getLast h' : Nat))
  rw [show nats s.dropLast ++ [D.int (s.getLast h' : Nat)] = nats (s.dropLast ++ [s.getLast h']) by simp [nats], e] at this
  rw [this, List.getLast_eq_getElem]
  unfold lastS
  rw [List.getD_eq_getElem?_getD, List.getElem?_eq_getElem (by omega)]
  rfl
theorem rng57 (a n : Nat) : rngD ((a : Int) + 1) ((n : Int) - ((a : Int) + 1)).toNat = (List.range (n - (a + 1))).map fun i : Nat => D.int ((a + 1 + i : Nat) : Int) := by
  unfold rngD
  rw [show ((n : Int) - ((a : Int) + 1)).toNat = n - (a + 1) by omega]
  refine List.map_congr_left fun i _ => ?_
  simp
theorem sset_sset57 {μ : Sto} {a : Addr} {m m' : MO} : sset (sset μ a m) a m' = sset μ a m' := by
  funext b; unfold sset; split <;> rfl
theorem ok_law_ends : ∀ ds μ Q E, sp_law_ends ds μ Q E → b_law_ends { nx := fun _ μ' => Q .non μ', rt := Q } (startD 16 ds) μ := by
  rintro ds μ Q E ⟨ws, rfl, hn, h0, hw, q⟩
  unfold b_law_ends
  rw [dSeq]
  simp [-dSeq]
  unfold b_law_ends_2
  rw [dSeq]
  simp [-dSeq, -lcD]
  refine lcD_list (inv := still) ws D.str (fun a => .lst (ws.map fun b => .int (cst a b))) trivial (by show _ ≤ 16777216; omega) (fun a ha k hk => ?_) ?_
  · simp [-lcD]
    refine lcD_list (inv := still) ws D.str (fun b => .int (cst a b : Nat)) trivial (by show _ ≤ 16777216; omega) (fun b hb k2 hk2 => ?_) hk
    simp
    exact ⟨a, b, rfl, hw a ha, hw b hb, hk2⟩
  show b_law_ends_3 _ [_, _, some (.val (.lst (prD ws))), _, _, _, _, _, _, _, _, _, _, _, _, _] _
  unfold b_law_ends_3
  rw [dSeq]
  simp [-dSeq]
  intro p hp
  unfold b_law_ends_4
  rw [dSeq]
  simp [rngOk, -dSeq, -forD]
  refine ⟨by omega, forD_rng (fun k ρ μ' => ∃ x4 kvs, ρ = [some (.val (shD ws)), some (.val (.int ws.length)), some (.val (.lst (prD ws))), some (.val (.ref p)), x4, none, none, none, none, none, none, none, none, none, none, none] ∧ μ' = sset μ p (.dnn kvs) ∧ kvs.length ≤ k ∧ Has (cN ws) kvs fun s i => i < k ∧ s = [i]) ?_ ?_ ⟨none, [], rfl, rfl, Nat.le_refl _, fun s i h => by omega⟩⟩
  · rintro k ρ μ2 nx hk ⟨x4, kvs, rfl, rfl, hl, hH⟩ hnx
    simp
    unfold b_law_ends_4l
    simp
    refine ⟨kvs, sset_same, _, keysN_one k, depth_nkey [k] k, by omega, ?_⟩
    rw [sset_sset57]
    exact hnx _ _ ⟨_, _, rfl, rfl, by have := putN_len kvs (nkey [k] k) (D.tup [D.int 0, D.tup [D.int (k : Nat)]]); exact Nat.le_trans this (by omega), by
      have e := ent_one (cN ws) k
      have := hH.put (s := [k]) (i := k) (P' := fun s i => i < k + 1 ∧ s = [i]) (fun s' i' h => by
        rcases Nat.lt_or_ge i' k with z | z
        · exact .inl ⟨z, h.2⟩
        · have z : i' = k := by omega
          subst z
          exact .inr ⟨h.2, rfl⟩)
      rw [e] at this
      exact this⟩
  · rintro ρ μ2 ⟨x4, kvs, rfl, rfl, hl, hH⟩
    dsimp only
    unfold b_law_ends_5
    rw [dSeq]
    simp [rngOk, -dSeq, -lcD]
    refine ⟨by omega, ?_⟩
    rw [rng_nats]
    refine lcD_list (inv := still) (List.range ws.length) (fun x : Nat => D.int x) (fun x => sD57 [x]) trivial (by rw [List.length_range]; show _ ≤ 16777216; omega) (fun a ha k hk => ?_) ?_
    · simp; exact hk
    rw [show (List.range ws.length).map (fun x => sD57 [x]) = (setsA ws.length 0).map sD57 by unfold setsA; rw [List.map_map]; rfl]
    have hH0 : Has (cN ws) kvs (Pt57 ws.length 0) := hH.sub fun s i h => by
      obtain ⟨j, hj, hs, hi⟩ := h
      have hj : j = 0 := by omega
      subst hj
      obtain ⟨x, hx, rfl⟩ := List.mem_map.mp hs
      rw [List.mem_singleton.mp hi]
      exact ⟨List.mem_range.mp hx, rfl⟩
    clear hH
    show b_law_ends_6 _ _ _
    unfold b_law_ends_6
    rw [dSeq]
    simp [rngOk, -dSeq, -forD]
    refine ⟨⟨by omega, by omega⟩, forD_rng (fun t ρ μ' => ∃ x4 x6 x7 x8 x9 x10 x11 kvs, ρ = [some (.val (shD ws)), some (.val (.int ws.length)), some (.val (.lst (prD ws))), some (.val (.ref p)), x4, some (.val (.lst ((setsA ws.length t).map sD57))), x6, x7, x8, x9, x10, x11, none, none, none, none] ∧ μ' = sset μ p (.dnn kvs) ∧ kvs.length ≤ 8 + 560 * t ∧ Has (cN ws) kvs (Pt57 ws.length t)) ?_ ?_ ⟨_, _, _, _, _, _, _, kvs, rfl, rfl, by omega, hH0⟩⟩
    · clear hH0 hl kvs x4
      rintro t ρ μ2 nx ht ⟨x4, x6, x7, x8, x9, x10, x11, kvs, rfl, rfl, hl, hH⟩ hnx
      simp [-dSeq]
      unfold b_law_ends_6l
      rw [dSeq]
      simp [-dSeq]
      unfold b_law_ends_6l_2
      rw [dSeq]
      simp [-dSeq, -forD]
      have hn8 : ws.length < 9 := by omega
      have ht7 : t < 7 := by omega
      refine forD_list sD57 (fun r ρ μ' => μ' = sset μ p (.dnn kvs) ∧ (∀ s ∈ r, s ∈ setsA ws.length t) ∧ ∃ x8 acc, acc ++ r.flatMap (nxtS ws.length) = setsA ws.length (t + 1) ∧ ρ = [some (.val (shD ws)), some (.val (.int ws.length)), some (.val (.lst (prD ws))), some (.val (.ref p)), x4, some (.val (.lst ((setsA ws.length t).map sD57))), some (.val (.int t)), some (.own (acc.map sD57)), x8, x9, x10, x11, none, none, none, none]) (fun _ _ _ _ => trivial) ?_ ?_ (setsA ws.length t) _ _ ⟨rfl, fun s hs => hs, _, [], rfl, rfl⟩
      · rintro s r ρ μ3 nx2 ⟨rfl, hr, y8, acc, hacc, rfl⟩ hnx2
        obtain ⟨hs1, hs2, hs3, hs4⟩ := setsA_ok hn8 (by omega) (hr s (by simp))
        simp
        unfold b_law_ends_6l_2l
        simp [rngOk, -lcD]
        have hlm := hs2 _ (lastS_mem hs3)
        refine ⟨_, atI_lastS hs3, ?_⟩
        simp [-lcD]
        refine ⟨by omega, by omega, ?_⟩
        rw [rng57]
        have hlen := setsA_len ws.length hn8 (t + 1) (by omega)
        rw [← hacc, List.flatMap_cons, List.length_append, List.length_append] at hlen
        refine lcD_list (inv := still) (List.range (ws.length - (lastS s + 1))) (fun i : Nat => D.int ((lastS s + 1 + i : Nat) : Int)) (fun i => sD57 (s ++ [lastS s + 1 + i])) trivial (by rw [List.length_range]; show _ ≤ 16777216; omega) (fun a ha k hk => ?_) ?_
        · simp
          refine ⟨by omega, ?_⟩
          rw [show sD57 (s ++ [lastS s + 1 + a]) = D.tup (nats s ++ [D.int ((lastS s + 1 + a : Nat) : Int)]) by simp] at hk
          simpa using hk
        · rw [show (List.range (ws.length - (lastS s + 1))).map (fun i => sD57 (s ++ [lastS s + 1 + i])) = (nxtS ws.length s).map sD57 by unfold nxtS; rw [List.map_map]; rfl]
          refine ⟨by rw [List.length_map]; omega, hnx2 _ _ ⟨rfl, fun z hz => hr z (List.mem_cons_of_mem _ hz), _, acc ++ nxtS ws.length s, by rw [List.append_assoc, ← List.flatMap_cons]; exact hacc, by rw [List.map_append]⟩⟩
      · rintro ρ μ3 ⟨rfl, _, y8, acc, hacc, rfl⟩
        simp at hacc
        subst hacc
        dsimp only
        unfold b_law_ends_6l_3
        rw [dSeq]
        simp [-dSeq]
        unfold b_law_ends_6l_4
        simp [-forD]
        have hlen := setsA_len ws.length hn8 (t + 1) (by omega)
        refine forD_list sD57 (fun r ρ μ' => ∃ kvs' dn y4 z8 y9 y10 y11, dn ++ r = setsA ws.length (t + 1) ∧ ρ = [some (.val (shD ws)), some (.val (.int ws.length)), some (.val (.lst (prD ws))), some (.val (.ref p)), y4, some (.val (.lst ((setsA ws.length (t + 1)).map sD57))), some (.val (.int t)), some (.val (.lst ((setsA ws.length (t + 1)).map sD57))), z8, y9, y10, y11, none, none, none, none] ∧ μ' = sset μ p (.dnn kvs') ∧ kvs'.length ≤ 8 + 560 * t + 8 * dn.length ∧ Has (cN ws) kvs' fun s i => Pt57 ws.length t s i ∨ (s ∈ dn ∧ i ∈ s)) (fun _ _ _ _ => trivial) ?_ ?_ (setsA ws.length (t + 1)) _ _ ⟨kvs, [], _, _, _, _, _, rfl, rfl, rfl, by simpa using hl, hH.sub fun s i h => by simpa using h⟩
        · clear hH hl kvs
          rintro s r ρ μ3 nx2 ⟨kvs, dn, y4, z8, y9, y10, y11, hdn, rfl, rfl, hl, hH⟩ hnx2
          have hs0 : s ∈ setsA ws.length (t + 1) := by rw [← hdn]; simp
          obtain ⟨hs1, hs2, hs3, hs4⟩ := setsA_ok hn8 (by omega) hs0
          have hdl : dn.length < 70 := by rw [← hdn, List.length_append, List.length_cons] at hlen; omega
          simp
          unfold b_law_ends_6l_4l
          simp [-forD]
          refine forD_list (fun x : Nat => D.int x) (fun r2 ρ μ' => ∃ kvs' dn2 y4 y9 y10 y11, dn2 ++ r2 = s ∧ ρ = [some (.val (shD ws)), some (.val (.int ws.length)), some (.val (.lst (prD ws))), some (.val (.ref p)), y4, some (.val (.lst ((setsA ws.length (t + 1)).map sD57))), some (.val (.int t)), some (.val (.lst ((setsA ws.length (t + 1)).map sD57))), some (.val (sD57 s)), y9, y10, y11, none, none, none, none] ∧ μ' = sset μ p (.dnn kvs') ∧ kvs'.length ≤ 8 + 560 * t + 8 * dn.length + dn2.length ∧ Has (cN ws) kvs' fun s' i => (Pt57 ws.length t s' i ∨ (s' ∈ dn ∧ i ∈ s')) ∨ (s' = s ∧ i ∈ dn2)) (fun _ _ _ _ => trivial) ?_ ?_ s _ _ ⟨kvs, [], _, _, _, _, rfl, rfl, rfl, by simpa using hl, hH.sub fun s i h => by simpa using h⟩
          · clear hH hl kvs
            rintro i r2 ρ μ4 nx3 ⟨kvs, dn2, w4, w9, w10, w11, hdn2, rfl, rfl, hl, hH⟩ hnx3
            have hi : i ∈ s := by rw [← hdn2]; simp
            have hd2 : dn2.length < 8 := by rw [← hdn2, List.length_append, List.length_cons] at hs4; omega
            simp [-dSeq]
            unfold b_law_ends_6l_4l_1l
            rw [dSeq]
            simp [-dSeq, -lcD]
            have hsub := setsA_less ws.length hn8 t (by omega) s hs0 i hi
            have hT : s.erase i = s.filter fun x => decide (x ≠ i) := by
              rw [hs1.erase_eq_filter]
              refine List.filter_congr fun x _ => ?_
              rw [Bool.eq_iff_iff]
              simp
            have h2 := setsA_two ws.length hn8 t (by omega) s hs0
            have hTl : (s.erase i).length = s.length - 1 := List.length_erase_of_mem hi
            have hT0 : s.erase i ≠ [] := fun e => by rw [e] at hTl; simp at hTl; omega
            have hil : i < ws.length := hs2 i hi
            refine lcD_listF (inv := still) s (fun x => decide (x ≠ i)) (fun x : Nat => D.int x) (fun x : Nat => D.int x) trivial (by show _ ≤ 16777216; omega) (fun a ha k n h1 h2 => ?_) ?_
            · simp
              by_cases e : a = i
              · subst e
                simp
                exact h2 (by simp)
              · rw [if_neg (by omega)]
                exact h1 (by simpa using e)
            rw [← hT]
            show b_law_ends_6l_4l_1l_2 _ [_, _, _, _, _, _, _, _, _, some (.val (sD57 (s.erase i))), _, _, _, _, _, _] _
            generalize hTT : s.erase i = T at hT0 hTl hsub
            unfold b_law_ends_6l_4l_1l_2
            rw [dSeq]
            simp [-dSeq, -lcD]
            refine lcD_list (inv := still) T (fun x : Nat => D.int x) (fun x => entD (ent (cN ws) T x)) trivial (by show _ ≤ 16777216; omega) (fun a ha k hk => ?_) ?_
            · simp
              exact ⟨kvs, sset_same, _, keysN_of T a, depth_nkey _ _, _, hH _ _ (.inl (.inl ⟨t, Nat.le_refl _, hsub, ha⟩)), hk⟩
            show b_law_ends_6l_4l_1l_3 _ _ _
            unfold b_law_ends_6l_4l_1l_3
            rw [dSeq]
            simp [-dSeq, -lcD]
            refine lcD_list (inv := still) T (fun x => entD (ent (cN ws) T x)) (fun x => .tup [.int ((cN ws i x + (ent (cN ws) T x).1 : Nat) : Int), .tup (nats (i :: (ent (cN ws) T x).2))]) trivial (by show _ ≤ 16777216; omega) (fun a ha k hk => ?_) ?_
            · have hxl : a < ws.length := hs2 a (List.mem_of_mem_erase (hTT.symm ▸ ha))
              obtain ⟨row, r1, r2⟩ := prD_at hil hxl
              have hbl : (ent (cN ws) T a).2.length ≤ 8 := by
                have := (bo_bst (cN ws) a (T.erase a)).prop.1.length_eq
                have h3 := List.length_erase_of_mem ha
                show (bo (cN ws) a (T.erase a)).length + 1 ≤ 8
                omega
              simp
              refine ⟨_, by rw [atI_nat]; exact r1, _, (show atI (D.int (a : Nat) :: nats (bo (cN ws) a (T.erase a))) 0 = some (D.int (a : Nat)) from atI_0 _ _), ?_⟩
              simp
              refine ⟨_, by rw [atI_nat]; exact r2, ?_⟩
              simp
              refine ⟨by omega, ?_⟩
              simpa using hk
            rw [show T.map (fun x => D.tup [.int ((cN ws i x + (ent (cN ws) T x).1 : Nat) : Int), .tup (nats (i :: (ent (cN ws) T x).2))]) = (T.map fun x => (cN ws i x + (ent (cN ws) T x).1, i :: (ent (cN ws) T x).2)).map (fun p => .tup [.int p.1, .tup (nats p.2)]) by rw [List.map_map]; rfl]
            generalize hPL : (T.map fun x => (cN ws i x + (ent (cN ws) T x).1, i :: (ent (cN ws) T x).2)) = PL
            have hPL0 : PL ≠ [] := fun e => by rw [e] at hPL; exact hT0 (List.map_eq_nil_iff.mp hPL)
            show b_law_ends_6l_4l_1l_4 _ _ _
            unfold b_law_ends_6l_4l_1l_4
            simp
            refine min_prL hPL0 fun m hm hle => ?_
            have em : m = ent (cN ws) s i := ent_min (s := s) (by rw [hTT]; exact hT0) (by rw [hTT, hPL]; exact hm) (by rw [hTT, hPL]; exact hle)
            subst em
            refine ⟨kvs, sset_same, _, keysN_of s i, depth_nkey _ _, by omega, ?_⟩
            rw [sset_sset57]
            refine hnx3 _ _ ⟨_, dn2 ++ [i], _, _, _, _, by rw [List.append_assoc]; exact hdn2, rfl, rfl, ?_, ?_⟩
            · have := putN_len kvs (nkey s i) (entD (ent (cN ws) s i))
              rw [List.length_append, List.length_singleton]
              exact Nat.le_trans this (by omega)
            · refine hH.put (s := s) (i := i) fun s' i' h => ?_
              rcases h with h | ⟨h, hi⟩
              · exact .inl (.inl h)
              · rcases List.mem_append.mp hi with hi | hi
                · exact .inl (.inr ⟨h, hi⟩)
                · exact .inr ⟨h, List.mem_singleton.mp hi⟩
          · rintro ρ μ4 ⟨kvs', dn2, w4, w9, w10, w11, hdn2, rfl, rfl, hl2, hH2⟩
            rw [List.append_nil] at hdn2
            subst hdn2
            exact hnx2 _ _ ⟨kvs', dn ++ [dn2], _, _, _, _, _, by rw [List.append_assoc]; exact hdn, rfl, rfl, by rw [List.length_append, List.length_singleton]; omega, hH2.sub fun s i h => by
              rcases h with h | ⟨h, hi⟩
              · exact .inl (.inl h)
              · rcases List.mem_append.mp h with h | h
                · exact .inl (.inr ⟨h, hi⟩)
                · rw [List.mem_singleton.mp h] at hi ⊢
                  exact .inr ⟨rfl, hi⟩⟩
        · rintro ρ μ3 ⟨kvs', dn, y4, z8, y9, y10, y11, hdn, rfl, rfl, hl2, hH2⟩
          rw [List.append_nil] at hdn
          subst hdn
          refine hnx _ _ ⟨_, _, _, _, _, _, _, kvs', rfl, rfl, by omega, hH2.sub fun s i h => ?_⟩
          obtain ⟨j, hj, hs, hi⟩ := h
          rcases Nat.lt_or_ge t j with z | z
          · have : j = t + 1 := by omega
            subst this
            exact .inr ⟨hs, hi⟩
          · exact .inl ⟨j, z, hs, hi⟩
    · clear hH0 hl kvs x4
      rintro ρ μ2 ⟨x4, x6, x7, x8, x9, x10, x11, kvs, rfl, rfl, hl, hH⟩
      dsimp only
      unfold b_law_ends_7
      rw [dSeq]
      simp [-dSeq]
      refine ⟨by unfold lrOk; omega, ?_⟩
      rw [rng_nats]
      unfold b_law_ends_8
      simp [rngOk, -lcD]
      refine ⟨by omega, ?_⟩
      rw [rng_nats]
      refine lcD_list (inv := still) (List.range ws.length) (fun x : Nat => D.int x) (fun x => entD (ent (cN ws) (List.range ws.length) x)) trivial (by rw [List.length_range]; show _ ≤ 16777216; omega) (fun a ha k hk => ?_) ?_
      · simp
        exact ⟨kvs, sset_same, _, keysN_of (List.range ws.length) a, depth_nkey _ _, _, hH _ _ ⟨ws.length - 1, Nat.le_refl _, setsA_whole ws.length (by omega) h0, ha⟩, hk⟩
      · refine q _ fun a ha => ?_
        rw [sset_ne (fun e => by subst e; exact ha hp)]
/-- each item gives one; what may change keeps J -/
theorem lcD_listM {α : Type} {vs : List Nat} {g : TGD} {el : TED} {ρ : DEnv} {Q : List D → Sto → Prop} {μ : Sto} {inv : Sto → Prop} (J : Sto → Prop) (l : List α) (i r : α → D) (hi : ∀ μ, J μ → inv μ) (hl : l.length ≤ SZ)
    (step : ∀ a ∈ l, ∀ (k : D → Sto → Prop) μ, J μ → (∀ μ', J μ' → k (r a) μ') → g (i a) (wipeD ρ vs) fun ρ1 => el ρ1 μ k) (h0 : J μ) (done : ∀ μ', J μ' → Q (l.map r) μ') : lcD vs g dYes el ρ inv Q (l.map i) [] μ := by
  refine lcD_inv (fun xs acc μ' => J μ' ∧ ∃ pre post, l = pre ++ post ∧ xs = post.map i ∧ acc = pre.map r) (fun _ _ _ h => hi _ h.1) ?_ ?_ (l.map i) [] μ ⟨h0, [], l, rfl, rfl, rfl⟩
  · rintro x xs acc μ' n ⟨hJ, pre, post, e, hx, rfl⟩ hn
    cases post with
    | nil => cases hx
    | cons a post =>
      rw [List.map_cons] at hx
      cases hx
      have := step a (by rw [e]; simp) (fun y m => (pre.map r).length < SZ ∧ n (pre.map r ++ [y]) m) μ' hJ fun μ2 hJ2 => ⟨by rw [e] at hl; simp at hl ⊢; omega, hn _ _ ⟨hJ2, pre ++ [a], post, by simp [e], rfl, by simp⟩⟩
      simpa using this
  · rintro acc μ' ⟨hJ, pre, post, e, hx, rfl⟩
    cases post with
    | nil => rw [List.append_nil] at e; subst e; exact done _ hJ
    | cons a post => cases hx
theorem ent_bA (ws : List (List Nat)) (p : Nat) : (ent (cN ws) (List.range ws.length) p).2 = bA ws p := rfl
theorem pO_ent (ws : List (List Nat)) (p : Nat) : (ws.getD p []).length + (ent (cN ws) (List.range ws.length) p).1 = pO ws (bA ws p) := by
  show _ + RR (cN ws) p (oth ws.length p) = (ws.getD p []).length + pc (cN ws) p (bo (cN ws) p (oth ws.length p))
  rw [(bo_bst (cN ws) p (oth ws.length p)).prop.2.1]
theorem getD_mem57 {ws : List (List Nat)} {p : Nat} (h : p < ws.length) : ws.getD p [] ∈ ws := by
  rw [List.getD_eq_getElem?_getD, List.getElem?_eq_getElem h]
  exact List.getElem_mem _
theorem len_law : ∀ ds μ Q E, sp_law ds μ Q E → ds.length = 1 := by
  rintro ds μ Q E ⟨ns, rfl, _⟩; rfl
theorem ok_law : ∀ ds μ Q E, sp_law ds μ Q E → b_law { nx := fun _ μ' => Q .non μ', rt := Q } (startD 8 ds) μ := by
  rintro ds μ Q E ⟨ns, rfl, hn, q⟩
  unfold b_law
  rw [dSeq]
  simp [-dSeq]
  refine ⟨ns, rfl, hn, fun j c μ1 hJ _ _ _ => ?_⟩
  show b_law_2 _ _ _
  unfold b_law_2
  rw [dSeq]
  simp [rngOk, -dSeq, -forD]
  refine forD_rng (fun i ρ μ' => (∃ x2 x3 x4 x5 : Option DS, ρ = [some (.val (.scr ns)), some (.val (.ref j)), x2, x3, x4, x5, none, none]) ∧ Jar j c (2000 * i) μ') ?_ ?_ ⟨⟨none, none, none, none, rfl⟩, hJ⟩
  · rintro i ρ μ2 n hi ⟨⟨x2, x3, x4, x5, rfl⟩, hJ2⟩ hnx
    simp [-dSeq]
    unfold b_law_2l
    rw [dSeq]
    simp [-dSeq]
    obtain ⟨m, hm, hm0, hm8⟩ : ∃ m : Nat, atI [D.int 8, D.int 6] (i : Int) = some (.int m) ∧ 0 < m ∧ m ≤ 8 := by
      rcases (show i = 0 ∨ i = 1 by omega) with e | e
      · subst e; exact ⟨8, rfl, by omega, by omega⟩
      · subst e; exact ⟨6, rfl, by omega, by omega⟩
    obtain ⟨m2, hm2, hm30⟩ : ∃ m : Nat, atI [D.int 30, D.int 9] (i : Int) = some (.int m) ∧ m ≤ 30 := by
      rcases (show i = 0 ∨ i = 1 by omega) with e | e
      · subst e; exact ⟨30, rfl, by omega⟩
      · subst e; exact ⟨9, rfl, by omega⟩
    refine ⟨_, hm, _, hm2, ?_⟩
    refine ⟨j, c, 2000 * i, m, m2, rfl, hJ2, by omega, hm0, hm8, hm30, fun ws μ3 hW hl0 hlm hJ3 => ?_⟩
    have hS : ShOk ws := ⟨by omega, fun v hv => by have := (hW v hv).2; omega⟩
    show b_law_2l_2 _ _ _
    unfold b_law_2l_2
    rw [dSeq]
    simp [-dSeq]
    refine ⟨ws, rfl, by omega, hl0, fun w hw => by have := (hW w hw).2; omega, fun μ4 hg => ?_⟩
    have hJ4 := hJ3.kpE hg
    clear hg
    show b_law_2l_3 _ [_, _, _, _, some (.val (.lst ((List.range ws.length).map fun p => entD (ent (cN ws) (List.range ws.length) p)))), _, _, _] _
    unfold b_law_2l_3
    rw [dSeq]
    simp [rngOk, -dSeq, -lcD]
    have rB : repOk (.lst ((List.range ws.length).map fun p => D.tup (nats (bA ws p)))) := (shw_lst (w := 1220) (k := 1) (n := 8) (fun d hd => by
      obtain ⟨p, hp, rfl⟩ := List.mem_map.mp hd
      have hpl := List.mem_range.mp hp
      have hbl : (bA ws p).length = ws.length := by rw [(bA_perm hpl).length_eq, List.length_range]
      have hbx : ∀ x ∈ bA ws p, x < ws.length := fun x hx => List.mem_range.mp ((bA_perm hpl).mem_iff.mp hx)
      exact rep_nats (by omega) fun x hx => by have := hbx x hx; omega) (by rw [List.length_map, List.length_range]; omega)).rep (by omega) (by omega)
    refine ⟨by omega, ?_⟩
    rw [rng_nats]
    refine lcD_listM (inv := still) (Jar j c (2000 * i + 1500)) (List.range ws.length) (fun x : Nat => D.int x) (fun p => D.tup (nats (bA ws p))) (fun _ _ => trivial) (by rw [List.length_range]; show _ ≤ 16777216; omega) (fun a ha k μ5 hJ5 hk => ?_) hJ4 fun μ5 hJ5 => ?_
    · simp
      exact ⟨ws, a, rfl, hS, by omega, List.mem_range.mp ha, fun μ6 hg => hk _ (hJ5.kpE hg)⟩
    refine ⟨rB, ?_⟩
    refine lcD_list (inv := still) (List.range ws.length) (fun p => entD (ent (cN ws) (List.range ws.length) p)) (fun p => D.tup (nats (bA ws p))) trivial (by rw [List.length_range]; show _ ≤ 16777216; omega) (fun a ha k hk => ?_) ?_
    · simp
      exact hk
    refine ⟨rB, ?_⟩
    rw [if_pos rfl]
    clear rB
    unfold b_law_2l_4
    rw [dSeq]
    simp [-dSeq, -lcD]
    refine lcD_list (inv := still) (List.range ws.length) (fun p => entD (ent (cN ws) (List.range ws.length) p)) (fun p => D.tup [.int (pO ws (bA ws p) : Nat), .tup (nats (bA ws p))]) trivial (by rw [List.length_range]; show _ ≤ 16777216; omega) (fun a ha k hk => ?_) ?_
    · have hal := List.mem_range.mp ha
      have hwl := (hW (ws.getD a []) (getD_mem57 hal)).2
      simp
      refine ⟨_, (show atI (D.int (a : Nat) :: nats (bo (cN ws) a (oth ws.length a))) 0 = some (D.int (a : Nat)) from atI_0 _ _), ?_⟩
      simp
      refine ⟨_, atI_str hal, ?_⟩
      simp
      rw [← pO_ent, ← ent_bA] at hk
      exact ⟨by rw [← List.getD_eq_getElem?_getD]; omega, by simpa using hk⟩
    rw [show (List.range ws.length).map (fun p => D.tup [.int (pO ws (bA ws p) : Nat), .tup (nats (bA ws p))]) = ((List.range ws.length).map fun p => (pO ws (bA ws p), bA ws p)).map (fun p => .tup [.int p.1, .tup (nats p.2)]) by rw [List.map_map]; rfl]
    refine min_prL (fun e => by have := congrArg List.length e; rw [List.length_map, List.length_range] at this; exact absurd this (Nat.ne_of_gt hl0)) fun mm hmm hle => ?_
    obtain ⟨hbm, _⟩ := best_of hmm hle
    obtain ⟨_, ob⟩ := mm
    refine ⟨.tup (nats ob), rfl, ?_⟩
    dsimp only at hbm
    have hbl : ob.length = ws.length := by rw [hbm.1.length_eq, List.length_range]
    have hbx : ∀ x ∈ ob, x < ws.length := fun x hx => List.mem_range.mp (hbm.1.mem_iff.mp hx)
    have rO0 : Shw 1220 1 (D.tup (nats ob)) := rep_nats (by omega) fun x hx => by have := hbx x hx; omega
    have rO : repOk (D.tup (nats ob)) := rO0.rep (by omega) (by omega)
    show b_law_2l_5 _ _ _
    unfold b_law_2l_5
    simp
    refine best_goE hS (by omega) hl0 hJ5 fun o1 μ6 hb1 hJ6 => ?_
    obtain rfl := hb1.uniq hbm
    refine ⟨rO, rO, ?_⟩
    rw [if_pos rfl]
    exact hnx _ _ ⟨⟨_, _, _, _, rfl⟩, hJ6.le (by omega)⟩
  · rintro ρ μ2 ⟨⟨x2, x3, x4, x5, rfl⟩, hJ2⟩
    dsimp only
    unfold b_law_3
    simp
    exact q _
end DL

namespace DL
open PySem PySem.Spec PyProof.Rows L2
/-- the heap that shows the script alone, where the module does not own it -/
def Hscr (K : PySem.W.Frag) (a : Addr) (o : Obj) (xs : List V) : Hp := fun b => if b = a ∧ K.lookup a = none then some (.frz o (.lst xs)) else none
theorem Hscr_some {K : PySem.W.Frag} {a b : Addr} {o : Obj} {xs : List V} {u : HO} (h : Hscr K a o xs b = some u) : b = a ∧ K.lookup a = none ∧ u = .frz o (.lst xs) := by
  unfold Hscr at h
  split at h
  · rename_i c
    exact ⟨c.1, c.2, (Option.some.inj h).symm⟩
  · cases h
theorem Hscr_none {K : PySem.W.Frag} {a b : Addr} {o : Obj} {xs : List V} (h : ¬ (b = a ∧ K.lookup a = none)) : Hscr K a o xs b = none := if_neg h
theorem end_g {l : PySem.W.OpenLaw} {n k : Nat} {q : Program} {loose : List Str} {XP : (Str → Option Value) → Heap → Prop} {YP : World → Heap → Prop} {d : DefRec} {K : Params → PySem.W.Frag} {S : DSp} {x : Str}
    (hn : l.most = some n) (hn2 : n ≤ sizeLine) (hdf : d.params.defaults = []) (hr : Room k callerA) (hY : ∀ (w : World) (h : Heap), YP w h → (K w.params).In h)
    (F : ∀ (w : World) (mg : Str → Option Value) (fa : Addr) (h : Heap), (K w.params).In h → h.Ns mainGlobals mg → mg d.name = some (.ref fa) →
      ∃ fd : FuncData, (∀ (s : Shared) (u : Value), BindsTo s fd ⟨[u], []⟩ [(x, u)]) ∧ ∀ base : Heap, (K w.params).In base → base.Ns mainGlobals mg → FnG l.prog w (K w.params) mg base L2.CX0 k fa fd [x] (liftP (K w.params) mg S))
    (hS : ∀ ns : List Int, ns.length ≤ n → S [.scr ns] (fun _ => none) (fun v _ => v = .bl true) noD) : PySem.W.WalkO q loose XP YP l.row.toRowW d [] (fun f vs => PySem.call f vs) := by
  refine Att.attach_call hn hdf ?_
  intro w s0 s1 mg mb fa o pm cd doc a vs ns G Y ho hd hcd hmg hobj hints hlen hgens
  have KX := hY w _ Y
  obtain ⟨fd, bind, FF⟩ := F w mg fa _ KX G.T.g hmg
  generalize K w.params = K at KX FF
  -- the heap
  let so : Obj := { cls := .type "list", data := .seq vs.toArray }
  let H : Hp := Hscr K a so (ns.map V.int)
  have rel : Vals (ns.map V.int) vs := vals_ints hints
  have small : (ns.map V.int).length ≤ sizeLine := by
    rw [List.length_map]
    exact Nat.le_trans hlen hn2
  have ok : HOk l.prog w H s1.heap := by
    intro b u hb
    obtain ⟨rfl, _, rfl⟩ := Hscr_some hb
    exact ⟨hobj, small, vs, _, rel, hobj⟩
  have shown : SqL K H a (ns.map V.int) := by
    cases hk : K.lookup a with
    | none => exact Or.inl (Or.inr ⟨so, if_pos ⟨rfl, hk⟩⟩)
    | some ob =>
      have hob := KX a ob hk
      rw [hobj] at hob
      cases hob
      refine Or.inr ⟨_, vs.toArray, _, hk, rfl, rfl, rfl, ?_, by simpa using rel⟩
      rw [List.size_toArray, hints.length]
      exact Nat.le_trans hlen hn2
  -- what is not the script stands in the base
  have notscr : ∀ {b : Addr} {ob : Obj}, s1.heap.get? b = some ob → (∀ z m, ob.data ≠ .seq z m) → H b = none := by
    intro b ob hb hne
    refine Hscr_none ?_
    rintro ⟨rfl, _⟩
    rw [hobj] at hb
    cases hb
    exact hne _ _ rfl
  have ns' : ∀ {b : Addr} {m : Str → Option Value}, s1.heap.Ns b m → (hidT s1.heap H).Ns b m := by
    rintro b m ⟨ob, es, ep, h1, h2, h3⟩
    exact ⟨ob, es, ep, hidT_get h1 (notscr h1 (fun z m e => by rw [h2] at e; cases e)), h2, h3⟩
  have kin : K.In (hidT s1.heap H) := by
    intro b ob hb
    refine hidT_get (KX b ob hb) (Hscr_none ?_)
    rintro ⟨rfl, hk⟩
    rw [hb] at hk
    cases hk
  obtain ⟨mc, l1, l2⟩ := G.T.nolimit
  have md : Mod K mg (hidT s1.heap H) := ⟨kin, ns' G.T.g, ⟨mb, ns' G.T.b, G.T.builtins⟩, ⟨mc, ns' l1, l2⟩⟩
  have env : Env0 l.prog w K mg (hidT s1.heap H) callerA [] s1 H :=
    { frames := rfl, mod := md, bs := fun _ _ e => of_hidT e, bsz := Nat.le_of_eq (hidT_size _ _), funs := trivial, frf := fun b hb => (List.not_mem_nil hb).elim, hok := ok, bare := .of_eq hgens }
  have F0 := FF _ kin (ns' G.T.g)
  have promise : liftP K mg S [.ref a] H (fun v _ => v = .bl true) L2.E0 := by
    refine ⟨H, fun _ => none, [.scr ns], _, noD, ⟨fun _ _ e => e, (fun _ _ e => nomatch e), (fun _ _ e => nomatch e)⟩, .one (.scr shown), hS ns hlen, ?_, fun _ _ _ _ _ _ _ _ _ _ z => z.elim⟩
    rintro v F' μ' H' dv _ _ hv rfl
    cases hv
    rfl
  refine codeAny_mono (F0.run callerA [] s1 H ⟨[.ref a], []⟩ [.ref a] [.ref a] _ _ rfl hr env (bind s1 (.ref a)) (.cons rfl .nil) promise) ?_
  intro r s' h
  match r, h with
  | .ok (.ret u), ⟨v, H', hos, hbare, un, ok', rv, hv⟩ =>
    subst hv
    cases rv
    refine ⟨rfl, OldK.of_keep ?_, hos, hbare⟩
    intro b ob hb
    by_cases hc : H b = none
    · exact un.keep b ob hb hc (fun z => (List.not_mem_nil z).elim) (fun z => (List.not_mem_nil z).elim)
    · obtain ⟨u, hu⟩ := Option.ne_none_iff_exists'.mp hc
      obtain ⟨rfl, _, rfl⟩ := Hscr_some hu
      obtain ⟨e2, _⟩ := ok' _ _ (un.frzs _ _ _ hu)
      rw [hobj] at hb
      cases hb
      exact e2
end DL

namespace DL
open PySem PySem.Spec PyProof.Rows L2
theorem end_law : ∀ ns : List Int, ns.length ≤ 63 → sp_law [.scr ns] (fun _ => none) (fun v _ => v = .bl true) noD := fun ns h => ⟨ns, rfl, h, fun _ => rfl⟩
def topS (i : Nat) : Stmt := PySem.Challenge.pw_carbonpad_k57_best_orders_of_many_sheets.main.body.getD i (.Pass ⟨0, 0, 0, 0⟩)
section
variable {P : Program} {w : World} {K : PySem.W.Frag} {mg : Str → Option Value} {base : Heap}
abbrev s_is_between : Stmt := topS 5
theorem sc_is_between : FnScope ["value", "low", "high"] ["value", "low", "high"] (defScope s_is_between) := ⟨rfl, rfl, rfl, by decide +kernel, rfl, by decide +kernel, by decide +kernel⟩
theorem fn_is_between {f : Addr} {fd : FuncData} (F : Fun K "is_between" "is_between" s_is_between f fd) (m_bool : mg "bool" = none) (m_int : mg "int" = none) (m_isinstance : mg "isinstance" = none) : FnG P w K mg base L2.CX0 1 f fd ["value", "low", "high"] (liftP K mg sp_is_between) := by
  refine FnG.ofD (k := 0) F sc_is_between len_is_between b_is_between ok_is_between fun cdv A outer s H E B quiet room => ?_
  have nd := sc_is_between.nd
  exact (ds_last (ds_ret (de_and (de_fnB call_isi cs_isi (by rfl) m_isinstance (by decide +kernel) (daw_cons (dw_var (pv 0)) (daw_cons (dw (de_tyN (by rfl) m_int (by decide +kernel))) daw_nil))) (de_and (de_not (de_fnB call_isi cs_isi (by rfl) m_isinstance (by decide +kernel) (daw_cons (dw_var (pv 0)) (daw_cons (dw (de_tyN (by rfl) m_bool (by decide +kernel))) daw_nil)))) (de_one (de_chain op_le ops_le op_le ops_le (dw_var (pv 1)) (dw_var (pv 0)) (dw_var (pv 2))))))))
abbrev s_first_pick : Stmt := topS 7
theorem sc_first_pick : FnScope ["one", "other", "found", "begin", "letter", "place"] ["one", "other"] (defScope s_first_pick) := ⟨rfl, rfl, rfl, by decide +kernel, rfl, by decide +kernel, by decide +kernel⟩
theorem fn_first_pick {f : Addr} {fd : FuncData} (F : Fun K "first_pick" "first_pick" s_first_pick f fd) (m_tuple : mg "tuple" = none) : FnG P w K mg base L2.CX0 1 f fd ["one", "other"] (liftP K mg sp_first_pick) := by
  refine FnG.ofD (k := 0) F sc_first_pick len_first_pick b_first_pick ok_first_pick fun cdv A outer s H E B quiet room => ?_
  have nd := sc_first_pick.nd
  exact (ds_cons (ds_setR (fun _ h => ps_set (i := 2) nd rfl (by first | exact Or.inl rfl | exact Or.inr rfl) h) (dr_F (df_lst da_nil)))
  (ds_cons (ds_setR (fun _ h => ps_set (i := 3) nd rfl (by first | exact Or.inl rfl | exact Or.inr rfl) h) (dr_E de_int))
  (ds_cons (ds_for PassesOwn.never rfl (di_each (de_var (pv 1))) (dg_name (pg_name (i := 4) nd rfl (by first | exact Or.inl rfl | exact Or.inr rfl)))
  (ds_cons (ds_setR (fun _ h => ps_set (i := 5) nd rfl (by first | exact Or.inl rfl | exact Or.inr rfl) h) (dr_E (de_mt PySem.F.plainAttrs_str PySem.F.slot_str_find PySem.F.type_str_find mt_find3 ms_find (dw_var (pv 0)) (daw_cons (dw_var (pv 4)) (daw_cons (dw_var (pv 3)) daw_nil)))))
  (ds_cons (ds_if (dt_cmp op_ltA ops_lt (dw_var (pv 5)) (dw de_int) (nomark _))
  (ds_last ds_break)
  ds_nil)
  (ds_cons (ds_app (fun _ h => ps_expr (pe_bm PySem.F.plainAttrs_list PySem.F.slot_list_append PySem.F.type_list_append mt_append (pv 2) h)) (de_var (pv 5)))
  (ds_last (ds_setR (fun _ h => ps_set (i := 3) nd rfl (by first | exact Or.inl rfl | exact Or.inr rfl) h) (dr_E (de_op op_addA ops_add (dw_var (pv 5)) (dw de_int)))))))))
  (ds_last (ds_ret (de_fnT call_tupZ cs_tuple (by rfl) m_tuple (by decide +kernel) (daw_cons (dw_var (pv 2)) daw_nil)))))))
abbrev s_count_picked : Stmt := topS 8
theorem sc_count_picked : FnScope ["one", "other"] ["one", "other"] (defScope s_count_picked) := ⟨rfl, rfl, rfl, by decide +kernel, rfl, by decide +kernel, by decide +kernel⟩
theorem fn_count_picked {f : Addr} {fd : FuncData} (F : Fun K "count_picked" "count_picked" s_count_picked f fd) (m_len : mg "len" = none) (c_first_pick : Cal P w K mg base L2.CX0 1 "first_pick" sp_first_pick) : FnG P w K mg base L2.CX0 2 f fd ["one", "other"] (liftP K mg sp_count_picked) := by
  refine FnG.ofD (k := 1) F sc_count_picked len_count_picked b_count_picked ok_count_picked fun cdv A outer s H E B quiet room => ?_
  have nd := sc_count_picked.nd
  exact (ds_last (ds_ret (de_fnB call_lenA cs_len (by rfl) m_len (by decide +kernel) (daw_cons (dw (de_call c_first_pick quiet (room.mono (by decide)) (by rfl) (da_cons (de_var (pv 0)) (da_cons (de_var (pv 1)) da_nil)))) daw_nil))))
abbrev s_price : Stmt := topS 9
theorem sc_price : FnScope ["one", "other"] ["one", "other"] (defScope s_price) := ⟨rfl, rfl, rfl, by decide +kernel, rfl, by decide +kernel, by decide +kernel⟩
theorem fn_price {f : Addr} {fd : FuncData} (F : Fun K "price" "price" s_price f fd) (m_len : mg "len" = none) (c_count_picked : Cal P w K mg base L2.CX0 2 "count_picked" sp_count_picked) : FnG P w K mg base L2.CX0 3 f fd ["one", "other"] (liftP K mg sp_price) := by
  refine FnG.ofD (k := 2) F sc_price len_price b_price ok_price fun cdv A outer s H E B quiet room => ?_
  have nd := sc_price.nd
  exact (ds_last (ds_ret (de_op op_sub ops_sub (dw (de_fnB call_lenA cs_len (by rfl) m_len (by decide +kernel) (daw_cons (dw_var (pv 1)) daw_nil))) (dw (de_call c_count_picked quiet (room.mono (by decide)) (by rfl) (da_cons (de_var (pv 0)) (da_cons (de_var (pv 1)) da_nil)))))))
abbrev s_pairs_of : Stmt := topS 11
theorem sc_pairs_of : FnScope ["sheets"] ["sheets"] (defScope s_pairs_of) := ⟨rfl, rfl, rfl, by decide +kernel, rfl, by decide +kernel, by decide +kernel⟩
theorem fn_pairs_of {f : Addr} {fd : FuncData} (F : Fun K "pairs_of" "pairs_of" s_pairs_of f fd) (m_list : mg "list" = none) (m_zip : mg "zip" = none) : FnG P w K mg base L2.CX0 1 f fd ["sheets"] (liftP K mg sp_pairs_of) := by
  refine FnG.ofD (k := 0) F sc_pairs_of len_pairs_of b_pairs_of ok_pairs_of fun cdv A outer s H E B quiet room => ?_
  have nd := sc_pairs_of.nd
  exact (ds_last (ds_ret (de_F (df_lzip rfl (by rfl) m_list (by rfl) m_zip (da_cons (de_var (pv 0)) (da_cons (de_slice (dw_var (pv 0)) (do_some de_int) do_none) da_nil))))))
abbrev s_count_letters : Stmt := topS 12
theorem sc_count_letters : FnScope ["sheets", "word"] ["sheets"] (defScope s_count_letters) := ⟨rfl, rfl, rfl, by decide +kernel, rfl, by decide +kernel, by decide +kernel⟩
theorem fn_count_letters {f : Addr} {fd : FuncData} (F : Fun K "count_letters" "count_letters" s_count_letters f fd) (m_len : mg "len" = none) (m_sum : mg "sum" = none) : FnG P w K mg base L2.CX0 1 f fd ["sheets"] (liftP K mg sp_count_letters) := by
  refine FnG.ofD (k := 0) F sc_count_letters len_count_letters b_count_letters ok_count_letters fun cdv A outer s H E B quiet room => ?_
  have nd := sc_count_letters.nd
  exact (ds_last (ds_ret (de_fnB (cr_sum rfl) cs_sum (by rfl) m_sum (by decide +kernel) (daw_cons (dw (de_F (df_lc (own := [("word", 1)]) (ns := [1]) rfl nd (di_each (de_var (pv 0))) (blkOk_by (by kernel_rfl)) (by decide) (fun _ _ _ _ _ _ => (dg_name (pg_name (i := 1) nd rfl (by first | exact Or.inl rfl | exact Or.inr rfl)))) (fun _ _ _ _ _ => dts_nil) (fun _ _ _ _ _ => (de_fnB call_lenA cs_len (by rfl) m_len (by decide +kernel) (daw_cons (dw_var (pv 1)) daw_nil)))))) daw_nil))))
abbrev s_count_places : Stmt := topS 13
theorem sc_count_places : FnScope ["picks", "pick"] ["picks"] (defScope s_count_places) := ⟨rfl, rfl, rfl, by decide +kernel, rfl, by decide +kernel, by decide +kernel⟩
theorem fn_count_places {f : Addr} {fd : FuncData} (F : Fun K "count_places" "count_places" s_count_places f fd) (m_len : mg "len" = none) (m_sum : mg "sum" = none) : FnG P w K mg base L2.CX0 1 f fd ["picks"] (liftP K mg sp_count_places) := by
  refine FnG.ofD (k := 0) F sc_count_places len_count_places b_count_places ok_count_places fun cdv A outer s H E B quiet room => ?_
  have nd := sc_count_places.nd
  exact (ds_last (ds_ret (de_fnB (cr_sum rfl) cs_sum (by rfl) m_sum (by decide +kernel) (daw_cons (dw (de_F (df_lc (own := [("pick", 1)]) (ns := [1]) rfl nd (di_each (de_var (pv 0))) (blkOk_by (by kernel_rfl)) (by decide) (fun _ _ _ _ _ _ => (dg_name (pg_name (i := 1) nd rfl (by first | exact Or.inl rfl | exact Or.inr rfl)))) (fun _ _ _ _ _ => dts_nil) (fun _ _ _ _ _ => (de_fnB call_lenA cs_len (by rfl) m_len (by decide +kernel) (daw_cons (dw_var (pv 1)) daw_nil)))))) daw_nil))))
abbrev s_first_picks : Stmt := topS 14
theorem sc_first_picks : FnScope ["sheets", "one", "other"] ["sheets"] (defScope s_first_picks) := ⟨rfl, rfl, rfl, by decide +kernel, rfl, by decide +kernel, by decide +kernel⟩
theorem fn_first_picks {f : Addr} {fd : FuncData} (F : Fun K "first_picks" "first_picks" s_first_picks f fd) (m_tuple : mg "tuple" = none) (c_first_pick : Cal P w K mg base L2.CX0 1 "first_pick" sp_first_pick) (c_pairs_of : Cal P w K mg base L2.CX0 1 "pairs_of" sp_pairs_of) : FnG P w K mg base L2.CX0 2 f fd ["sheets"] (liftP K mg sp_first_picks) := by
  refine FnG.ofD (k := 1) F sc_first_picks len_first_picks b_first_picks ok_first_picks fun cdv A outer s H E B quiet room => ?_
  have nd := sc_first_picks.nd
  exact (ds_last (ds_ret (de_fnT call_tupZ cs_tuple (by rfl) m_tuple (by decide +kernel) (daw_cons (dw (de_F (df_lc (own := [("one", 1), ("other", 2)]) (ns := [1, 2]) rfl nd (di_each (de_call c_pairs_of quiet (room.mono (by decide)) (by rfl) (da_cons (de_var (pv 0)) da_nil))) (blkOk_by (by kernel_rfl)) (by decide) (fun _ _ _ _ _ _ => (dg_tup rfl (dgs_cons (dg_name (pg_name (i := 1) nd rfl (by first | exact Or.inl rfl | exact Or.inr rfl))) (dgs_cons (dg_name (pg_name (i := 2) nd rfl (by first | exact Or.inl rfl | exact Or.inr rfl))) dgs_nil)))) (fun _ _ _ _ _ => dts_nil) (fun _ _ _ _ _ => (de_call c_first_pick quiet (room.mono (by decide)) (by rfl) (da_cons (de_var (pv 1)) (da_cons (de_var (pv 2)) da_nil))))))) daw_nil))))
abbrev s_fewest_strokes : Stmt := topS 15
theorem sc_fewest_strokes : FnScope ["sheets"] ["sheets"] (defScope s_fewest_strokes) := ⟨rfl, rfl, rfl, by decide +kernel, rfl, by decide +kernel, by decide +kernel⟩
theorem fn_fewest_strokes {f : Addr} {fd : FuncData} (F : Fun K "fewest_strokes" "fewest_strokes" s_fewest_strokes f fd) (c_count_letters : Cal P w K mg base L2.CX0 1 "count_letters" sp_count_letters) (c_count_places : Cal P w K mg base L2.CX0 1 "count_places" sp_count_places) (c_first_picks : Cal P w K mg base L2.CX0 2 "first_picks" sp_first_picks) : FnG P w K mg base L2.CX0 3 f fd ["sheets"] (liftP K mg sp_fewest_strokes) := by
  refine FnG.ofD (k := 2) F sc_fewest_strokes len_fewest_strokes b_fewest_strokes ok_fewest_strokes fun cdv A outer s H E B quiet room => ?_
  have nd := sc_fewest_strokes.nd
  exact (ds_last (ds_ret (de_op op_sub ops_sub (dw (de_call c_count_letters quiet (room.mono (by decide)) (by rfl) (da_cons (de_var (pv 0)) da_nil))) (dw (de_call c_count_places quiet (room.mono (by decide)) (by rfl) (da_cons (de_call c_first_picks quiet (room.mono (by decide)) (by rfl) (da_cons (de_var (pv 0)) da_nil)) da_nil))))))
abbrev s_is_order : Stmt := topS 17
theorem sc_is_order : FnScope ["count", "value", "number"] ["count", "value"] (defScope s_is_order) := ⟨rfl, rfl, rfl, by decide +kernel, rfl, by decide +kernel, by decide +kernel⟩
theorem fn_is_order {f : Addr} {fd : FuncData} (F : Fun K "is_order" "is_order" s_is_order f fd) (m_all : mg "all" = none) (m_isinstance : mg "isinstance" = none) (m_len : mg "len" = none) (m_set : mg "set" = none) (m_tuple : mg "tuple" = none) (c_is_between : Cal P w K mg base L2.CX0 1 "is_between" sp_is_between) : FnG P w K mg base L2.CX0 2 f fd ["count", "value"] (liftP K mg sp_is_order) := by
  refine FnG.ofD (k := 1) F sc_is_order len_is_order b_is_order ok_is_order fun cdv A outer s H E B quiet room => ?_
  have nd := sc_is_order.nd
  exact (ds_cons (ds_if (DPW.dt (dpw_or (dt_not (dt_val (de_fnB call_isi cs_isi (by rfl) m_isinstance (by decide +kernel) (daw_cons (dw_var (pv 1)) (daw_cons (dw (de_tyN (by rfl) m_tuple (by decide +kernel))) daw_nil))))) (dpw_or1 (dt_cmp (op_neA room.units) ops_ne (dw (de_fnB call_lenA cs_len (by rfl) m_len (by decide +kernel) (daw_cons (dw_var (pv 1)) daw_nil))) (dw_var (pv 0)) (nomark _)))))
  (ds_last (ds_ret de_bl))
  ds_nil)
  (ds_last (ds_ret (de_and (de_fnB (cr_all rfl) cs_all (by rfl) m_all (by decide +kernel) (daw_cons (dw (de_F (df_lc (own := [("number", 2)]) (ns := [2]) rfl nd (di_each (de_var (pv 1))) (blkOk_by (by kernel_rfl)) (by decide) (fun _ _ _ _ _ _ => (dg_name (pg_name (i := 2) nd rfl (by first | exact Or.inl rfl | exact Or.inr rfl)))) (fun _ _ _ _ _ => dts_nil) (fun _ _ _ _ _ => (de_call c_is_between quiet (room.mono (by decide)) (by rfl) (da_cons (de_var (pv 2)) (da_cons de_int (da_cons (de_op op_sub ops_sub (dw_var (pv 0)) (dw de_int)) da_nil)))))))) daw_nil)) (de_one (de_cmp (op_eqA room.units) ops_eq (dw (de_lenSet rfl (by rfl) m_len (by rfl) m_set (dw_var (pv 1)))) (dw_var (pv 0)) (nomark _)))))))
abbrev s_order_price : Stmt := topS 18
theorem sc_order_price : FnScope ["sheets", "value", "number"] ["sheets", "value"] (defScope s_order_price) := ⟨rfl, rfl, rfl, by decide +kernel, rfl, by decide +kernel, by decide +kernel⟩
theorem fn_order_price {f : Addr} {fd : FuncData} (F : Fun K "order_price" "order_price" s_order_price f fd) (m_len : mg "len" = none) (m_tuple : mg "tuple" = none) (c_fewest_strokes : Cal P w K mg base L2.CX0 3 "fewest_strokes" sp_fewest_strokes) (c_is_order : Cal P w K mg base L2.CX0 2 "is_order" sp_is_order) : FnG P w K mg base L2.CX0 4 f fd ["sheets", "value"] (liftP K mg sp_order_price) := by
  refine FnG.ofD (k := 3) F sc_order_price len_order_price b_order_price ok_order_price fun cdv A outer s H E B quiet room => ?_
  have nd := sc_order_price.nd
  exact (ds_cons (ds_if (dt_not (dt_val (de_call c_is_order quiet (room.mono (by decide)) (by rfl) (da_cons (de_fnB call_lenA cs_len (by rfl) m_len (by decide +kernel) (daw_cons (dw_var (pv 0)) daw_nil)) (da_cons (de_var (pv 1)) da_nil)))))
  (ds_last ds_never)
  ds_nil)
  (ds_last (ds_ret (de_call c_fewest_strokes quiet (room.mono (by decide)) (by rfl) (da_cons (de_fnT call_tupZ cs_tuple (by rfl) m_tuple (by decide +kernel) (daw_cons (dw (de_F (df_lc (own := [("number", 2)]) (ns := [2]) rfl nd (di_each (de_var (pv 1))) (blkOk_by (by kernel_rfl)) (by decide) (fun _ _ _ _ _ _ => (dg_name (pg_name (i := 2) nd rfl (by first | exact Or.inl rfl | exact Or.inr rfl)))) (fun _ _ _ _ _ => dts_nil) (fun _ _ _ _ _ => (de_ix (dw_var (pv 0)) (dw_var (pv 2)) (fun _ _ => rfl)))))) daw_nil)) da_nil)))))
abbrev s_members_of : Stmt := topS 19
theorem sc_members_of : FnScope ["left", "number"] ["left"] (defScope s_members_of) := ⟨rfl, rfl, rfl, by decide +kernel, rfl, by decide +kernel, by decide +kernel⟩
theorem fn_members_of {f : Addr} {fd : FuncData} (F : Fun K "members_of" "members_of" s_members_of f fd) (m_range : mg "range" = none) : FnG P w K mg base L2.CX0 1 f fd ["left"] (liftP K mg sp_members_of) := by
  refine FnG.ofD (k := 0) F sc_members_of len_members_of b_members_of ok_members_of fun cdv A outer s H E B quiet room => ?_
  have nd := sc_members_of.nd
  exact (ds_last (ds_ret (de_F (df_lc (own := [("number", 1)]) (ns := [1]) rfl nd (di_rng1 (by rfl) m_range (da_cons (de_bits (de_var (pv 0))) da_nil)) (blkOk_by (by kernel_rfl)) (by decide) (fun _ _ _ _ _ _ => (dg_name (pg_name (i := 1) nd rfl (by first | exact Or.inl rfl | exact Or.inr rfl)))) (fun _ _ _ _ _ => (dts_one (dt_cmp (op_eqA room.units) ops_eq (dw (de_op op_and ops_and (dw (de_op op_shr ops_shr (dw_var (pv 0)) (dw_var (pv 1)))) (dw de_int))) (dw de_int) (nomark _)))) (fun _ _ _ _ _ => (de_var (pv 1)))))))
abbrev s_least_rests : Stmt := topS 20
theorem sc_least_rests : FnScope ["sheets", "prices", "found", "left", "last", "rests", "one", "other", "number"] ["sheets"] (defScope s_least_rests) := ⟨rfl, rfl, rfl, by decide +kernel, rfl, by decide +kernel, by decide +kernel⟩
theorem fn_least_rests {f : Addr} {fd : FuncData} (F : Fun K "least_rests" "least_rests" s_least_rests f fd) (m_len : mg "len" = none) (m_min : mg "min" = none) (m_range : mg "range" = none) (c_members_of : Cal P w K mg base L2.CX0 1 "members_of" sp_members_of) (c_price : Cal P w K mg base L2.CX0 3 "price" sp_price) : FnG P w K mg base L2.CX0 4 f fd ["sheets"] (liftP K mg sp_least_rests) := by
  refine FnG.ofD (k := 3) F sc_least_rests len_least_rests b_least_rests ok_least_rests fun cdv A outer s H E B quiet room => ?_
  have nd := sc_least_rests.nd
  exact (ds_cons (ds_setR (fun _ h => ps_set (i := 1) nd rfl (by first | exact Or.inl rfl | exact Or.inr rfl) h) (dr_E (de_F (df_lc (own := [("one", 6)]) (ns := [6]) rfl nd (di_each (de_var (pv 0))) (blkOk_by (by kernel_rfl)) (by decide) (fun _ _ _ _ _ _ => (dg_name (pg_name (i := 6) nd rfl (by first | exact Or.inl rfl | exact Or.inr rfl)))) (fun _ _ _ _ _ => dts_nil) (fun _ _ _ _ _ => (de_F (df_lc (own := [("other", 7)]) (ns := [7]) rfl nd (di_each (de_var (pv 0))) (blkOk_by (by kernel_rfl)) (by decide) (fun _ _ _ _ _ _ => (dg_name (pg_name (i := 7) nd rfl (by first | exact Or.inl rfl | exact Or.inr rfl)))) (fun _ _ _ _ _ => dts_nil) (fun _ _ _ _ _ => (de_call c_price quiet (room.mono (by decide)) (by rfl) (da_cons (de_var (pv 6)) (da_cons (de_var (pv 7)) da_nil)))))))))))
  (ds_cons (ds_setR (fun _ h => ps_set (i := 2) nd rfl (by first | exact Or.inl rfl | exact Or.inr rfl) h) (dr_E de_newT))
  (ds_cons (ds_for PassesOwn.never rfl (di_rng1 (by rfl) m_range (da_cons (de_op op_shl ops_shl (dw de_int) (dw (de_fnB call_lenA cs_len (by rfl) m_len (by decide +kernel) (daw_cons (dw_var (pv 0)) daw_nil)))) da_nil)) (dg_name (pg_name (i := 3) nd rfl (by first | exact Or.inl rfl | exact Or.inr rfl)))
  (ds_last (ds_for PassesOwn.never rfl (di_rng1 (by rfl) m_range (da_cons (de_fnB call_lenA cs_len (by rfl) m_len (by decide +kernel) (daw_cons (dw_var (pv 0)) daw_nil)) da_nil)) (dg_name (pg_name (i := 4) nd rfl (by first | exact Or.inl rfl | exact Or.inr rfl)))
  (ds_cons (ds_setLc (i := 5) (own := [("number", 8)]) (ns := [8]) rfl nd rfl rfl (sw_true rfl rfl rfl (by decide +kernel)) (di_each (de_call c_members_of quiet (room.mono (by decide)) (by rfl) (da_cons (de_var (pv 3)) da_nil))) (blkOk_by (by kernel_rfl)) (by decide) (fun _ _ _ _ _ _ => (dg_name (pg_name (i := 8) nd rfl (by first | exact Or.inl rfl | exact Or.inr rfl)))) (fun _ _ _ _ _ => dts_nil) (fun _ _ _ _ _ => (de_op op_addA ops_add (dw (de_ix (dw (de_ix (dw_var (pv 1)) (dw_var (pv 4)) (fun _ _ => rfl))) (dw_var (pv 8)) (fun _ _ => rfl))) (dw (de_getT room.units (dw_var (pv 2)) (da_cons (de_var (pv 8)) (da_cons (de_op op_sub ops_sub (dw_var (pv 3)) (dw (de_op op_shl ops_shl (dw de_int) (dw_var (pv 8))))) da_nil)))))) (hr := fun _ _ _ _ _ q => lr_val q))
  (ds_last (ds_putT (de_if (dt_cmp (op_neA room.units) ops_ne (dw_var (pv 5)) (dw (de_lst da_nil)) (nomark _)) (de_fnB (call_minA rfl) cs_min (by rfl) m_min (by decide +kernel) (daw_cons (dw_var (pv 5)) daw_nil)) de_int) (dw_var (pv 2)) (da_cons (de_var (pv 4)) (da_cons (de_var (pv 3)) da_nil)) room.units))))))
  (ds_last (ds_retName (pv 2))))))
abbrev s_best_from : Stmt := topS 21
theorem sc_best_from : FnScope ["sheets", "first", "rests", "order", "left", "last", "some", "number", "one"] ["sheets", "first", "rests"] (defScope s_best_from) := ⟨rfl, rfl, rfl, by decide +kernel, rfl, by decide +kernel, by decide +kernel⟩
theorem fn_best_from {f : Addr} {fd : FuncData} (F : Fun K "best_from" "best_from" s_best_from f fd) (m_len : mg "len" = none) (m_min : mg "min" = none) (c_members_of : Cal P w K mg base L2.CX0 1 "members_of" sp_members_of) (c_price : Cal P w K mg base L2.CX0 3 "price" sp_price) : FnG P w K mg base L2.CX0 4 f fd ["sheets", "first", "rests"] (liftP K mg sp_best_from) := by
  refine FnG.ofD (k := 3) F sc_best_from len_best_from b_best_from ok_best_from fun cdv A outer s H E B quiet room => ?_
  have nd := sc_best_from.nd
  exact (ds_cons (ds_asg (de_tup (da_cons (de_tup (da_cons (de_var (pv 1)) da_nil)) (da_cons (de_op op_sub ops_sub (dw (de_op op_sub ops_sub (dw (de_op op_shl ops_shl (dw de_int) (dw (de_fnB call_lenA cs_len (by rfl) m_len (by decide +kernel) (daw_cons (dw_var (pv 0)) daw_nil))))) (dw de_int))) (dw (de_op op_shl ops_shl (dw de_int) (dw_var (pv 1))))) da_nil))) (dg_tup rfl (dgs_cons (dg_name (pg_name (i := 3) nd rfl (by first | exact Or.inl rfl | exact Or.inr rfl))) (dgs_cons (dg_name (pg_name (i := 4) nd rfl (by first | exact Or.inl rfl | exact Or.inr rfl))) dgs_nil))))
  (ds_cons (ds_while PassesOwn.never (dt_cmp op_gt ops_gt (dw_var (pv 4)) (dw de_int) (nomark _))
  (ds_cons (ds_asg (de_tup (da_cons (de_ix (dw_var (pv 0)) (dw (de_ix (dw_var (pv 3)) (dw (de_neg de_int)) (fun _ _ => rfl))) (fun _ _ => rfl)) (da_cons (de_call c_members_of quiet (room.mono (by decide)) (by rfl) (da_cons (de_var (pv 4)) da_nil)) da_nil))) (dg_tup rfl (dgs_cons (dg_name (pg_name (i := 5) nd rfl (by first | exact Or.inl rfl | exact Or.inr rfl))) (dgs_cons (dg_name (pg_name (i := 6) nd rfl (by first | exact Or.inl rfl | exact Or.inr rfl))) dgs_nil))))
  (ds_cons (ds_setR (fun _ h => ps_set (i := 7) nd rfl (by first | exact Or.inl rfl | exact Or.inr rfl) h) (dr_E (de_ix (dw (de_fnB (call_minD rfl room.units) cs_minD (by rfl) m_min (by decide +kernel) (daw_cons (dw (de_F (df_lc (own := [("one", 8)]) (ns := [8]) rfl nd (di_each (de_var (pv 6))) (blkOk_by (by kernel_rfl)) (by decide) (fun _ _ _ _ _ _ => (dg_name (pg_name (i := 8) nd rfl (by first | exact Or.inl rfl | exact Or.inr rfl)))) (fun _ _ _ _ _ => dts_nil) (fun _ _ _ _ _ => (de_tup (da_cons (de_op op_addA ops_add (dw (de_call c_price quiet (room.mono (by decide)) (by rfl) (da_cons (de_var (pv 5)) (da_cons (de_ix (dw_var (pv 0)) (dw_var (pv 8)) (fun _ _ => rfl)) da_nil)))) (dw (de_getT room.units (dw_var (pv 2)) (da_cons (de_var (pv 8)) (da_cons (de_op op_sub ops_sub (dw_var (pv 4)) (dw (de_op op_shl ops_shl (dw de_int) (dw_var (pv 8))))) da_nil))))) (da_cons (de_var (pv 8)) da_nil))))))) daw_nil))) (dw de_int) (fun _ _ => rfl))))
  (ds_last (ds_asg (de_tup (da_cons (de_tup (da_star (dw_var (pv 3)) (da_cons (de_var (pv 7)) da_nil))) (da_cons (de_op op_sub ops_sub (dw_var (pv 4)) (dw (de_op op_shl ops_shl (dw de_int) (dw_var (pv 7))))) da_nil))) (dg_tup rfl (dgs_cons (dg_name (pg_name (i := 3) nd rfl (by first | exact Or.inl rfl | exact Or.inr rfl))) (dgs_cons (dg_name (pg_name (i := 4) nd rfl (by first | exact Or.inl rfl | exact Or.inr rfl))) dgs_nil))))))))
  (ds_last (ds_retName (pv 3)))))
abbrev s_best_after : Stmt := topS 22
theorem sc_best_after : FnScope ["sheets", "first"] ["sheets", "first"] (defScope s_best_after) := ⟨rfl, rfl, rfl, by decide +kernel, rfl, by decide +kernel, by decide +kernel⟩
theorem fn_best_after {f : Addr} {fd : FuncData} (F : Fun K "best_after" "best_after" s_best_after f fd) (m_len : mg "len" = none) (c_best_from : Cal P w K mg base L2.CX0 4 "best_from" sp_best_from) (c_is_between : Cal P w K mg base L2.CX0 1 "is_between" sp_is_between) (c_least_rests : Cal P w K mg base L2.CX0 4 "least_rests" sp_least_rests) : FnG P w K mg base L2.CX0 5 f fd ["sheets", "first"] (liftP K mg sp_best_after) := by
  refine FnG.ofD (k := 4) F sc_best_after len_best_after b_best_after ok_best_after fun cdv A outer s H E B quiet room => ?_
  have nd := sc_best_after.nd
  exact (ds_cons (ds_if (dt_not (dt_val (de_call c_is_between quiet (room.mono (by decide)) (by rfl) (da_cons (de_var (pv 1)) (da_cons de_int (da_cons (de_op op_sub ops_sub (dw (de_fnB call_lenA cs_len (by rfl) m_len (by decide +kernel) (daw_cons (dw_var (pv 0)) daw_nil))) (dw de_int)) da_nil))))))
  (ds_last ds_never)
  ds_nil)
  (ds_last (ds_ret (de_call c_best_from quiet (room.mono (by decide)) (by rfl) (da_cons (de_var (pv 0)) (da_cons (de_var (pv 1)) (da_cons (de_call c_least_rests quiet (room.mono (by decide)) (by rfl) (da_cons (de_var (pv 0)) da_nil)) da_nil)))))))
abbrev s_best_order : Stmt := topS 23
theorem sc_best_order : FnScope ["sheets", "rests", "orders", "first", "order"] ["sheets"] (defScope s_best_order) := ⟨rfl, rfl, rfl, by decide +kernel, rfl, by decide +kernel, by decide +kernel⟩
theorem fn_best_order {f : Addr} {fd : FuncData} (F : Fun K "best_order" "best_order" s_best_order f fd) (m_len : mg "len" = none) (m_min : mg "min" = none) (m_range : mg "range" = none) (c_best_from : Cal P w K mg base L2.CX0 4 "best_from" sp_best_from) (c_least_rests : Cal P w K mg base L2.CX0 4 "least_rests" sp_least_rests) (c_order_price : Cal P w K mg base L2.CX0 4 "order_price" sp_order_price) : FnG P w K mg base L2.CX0 5 f fd ["sheets"] (liftP K mg sp_best_order) := by
  refine FnG.ofD (k := 4) F sc_best_order len_best_order b_best_order ok_best_order fun cdv A outer s H E B quiet room => ?_
  have nd := sc_best_order.nd
  exact (ds_cons (ds_setR (fun _ h => ps_set (i := 1) nd rfl (by first | exact Or.inl rfl | exact Or.inr rfl) h) (dr_E (de_call c_least_rests quiet (room.mono (by decide)) (by rfl) (da_cons (de_var (pv 0)) da_nil))))
  (ds_cons (ds_setLc (i := 2) (own := [("first", 3)]) (ns := [3]) rfl nd rfl rfl (sw_true rfl rfl rfl (by decide +kernel)) (di_rng1 (by rfl) m_range (da_cons (de_fnB call_lenA cs_len (by rfl) m_len (by decide +kernel) (daw_cons (dw_var (pv 0)) daw_nil)) da_nil)) (blkOk_by (by kernel_rfl)) (by decide) (fun _ _ _ _ _ _ => (dg_name (pg_name (i := 3) nd rfl (by first | exact Or.inl rfl | exact Or.inr rfl)))) (fun _ _ _ _ _ => dts_nil) (fun _ _ _ _ _ => (de_call c_best_from quiet (room.mono (by decide)) (by rfl) (da_cons (de_var (pv 0)) (da_cons (de_var (pv 3)) (da_cons (de_var (pv 1)) da_nil))))) (hr := fun _ _ _ _ _ q => lr_val q))
  (ds_last (ds_ret (de_ix (dw (de_fnB (call_minD rfl room.units) cs_minD (by rfl) m_min (by decide +kernel) (daw_cons (dw (de_F (df_lc (own := [("order", 4)]) (ns := [4]) rfl nd (di_each (de_var (pv 2))) (blkOk_by (by kernel_rfl)) (by decide) (fun _ _ _ _ _ _ => (dg_name (pg_name (i := 4) nd rfl (by first | exact Or.inl rfl | exact Or.inr rfl)))) (fun _ _ _ _ _ => dts_nil) (fun _ _ _ _ _ => (de_tup (da_cons (de_call c_order_price quiet (room.mono (by decide)) (by rfl) (da_cons (de_var (pv 0)) (da_cons (de_var (pv 4)) da_nil))) (da_cons (de_var (pv 4)) da_nil))))))) daw_nil))) (dw de_int) (fun _ _ => rfl))))))
abbrev s_lawE_deck : Stmt := topS 25
theorem sc_lawE_deck : FnScope ["_law_script", "_law_cell"] ["_law_script"] (defScope s_lawE_deck) := ⟨rfl, rfl, rfl, by decide +kernel, rfl, by decide +kernel, by decide +kernel⟩
theorem fn_lawE_deck {f : Addr} {fd : FuncData} (F : Fun K "_law_deck" "_law_deck" s_lawE_deck f fd) (m_abs : mg "abs" = none) : FnG P w K mg base L2.CX0 1 f fd ["_law_script"] (liftP K mg sp_lawE_deck) := by
  refine FnG.ofD (k := 0) F sc_lawE_deck len_lawE_deck b_lawE_deck ok_lawE_deck fun cdv A outer s H E B quiet room => ?_
  have nd := sc_lawE_deck.nd
  exact (ds_last (ds_ret (de_M (df_lst (da_cons (de_M (df_lc (own := [("_law_cell", 1)]) (ns := [1]) rfl nd (di_each (de_slice (dw_var (pv 0)) do_none (do_some de_int))) (blkOk_by (by kernel_rfl)) (by decide) (fun _ _ _ _ _ _ => (dg_name (pg_name (i := 1) nd rfl (by first | exact Or.inl rfl | exact Or.inr rfl)))) (fun _ _ _ _ _ => dts_nil) (fun _ _ _ _ _ => (de_fnB call_abs cs_abs (by rfl) m_abs (by decide +kernel) (daw_cons (dw_var (pv 1)) daw_nil))))) (da_cons de_int da_nil))))))
abbrev s_lawE_draw : Stmt := topS 26
theorem sc_lawE_draw : FnScope ["_law_deck_here", "_law_many", "_law_cell", "_law_spot", "_law_mixed"] ["_law_deck_here", "_law_many"] (defScope s_lawE_draw) := ⟨rfl, rfl, rfl, by decide +kernel, rfl, by decide +kernel, by decide +kernel⟩
theorem fn_lawE_draw {f : Addr} {fd : FuncData} (F : Fun K "_law_draw" "_law_draw" s_lawE_draw f fd) (m_len : mg "len" = none) : FnG P w K mg base L2.CX0 1 f fd ["_law_deck_here", "_law_many"] (liftP K mg sp_lawE_draw) := by
  refine FnG.ofD (k := 0) F sc_lawE_draw len_lawE_draw b_lawE_draw ok_lawE_draw fun cdv A outer s H E B quiet room => ?_
  have nd := sc_lawE_draw.nd
  exact (ds_cons (ds_putM (de_op op_addA ops_add (dw (de_ix (dw_var (pv 0)) (dw de_int) (fun _ _ => rfl))) (dw de_int)) (de_var (pv 0)) (dw de_int))
  (ds_cons (ds_asg (de_tup (da_cons de_int (da_cons de_int da_nil))) (dg_tup rfl (dgs_cons (dg_name (pg_name (i := 2) nd rfl (by first | exact Or.inl rfl | exact Or.inr rfl))) (dgs_cons (dg_name (pg_name (i := 3) nd rfl (by first | exact Or.inl rfl | exact Or.inr rfl))) dgs_nil))))
  (ds_cons (ds_if (dt_cmp (op_neA room.units) ops_neR (dw (de_ix (dw_var (pv 0)) (dw de_int) (fun _ _ => rfl))) (dw (de_lst da_nil)) (nomark _))
  (ds_cons (ds_setR (fun _ h => ps_set (i := 3) nd rfl (by first | exact Or.inl rfl | exact Or.inr rfl) h) (dr_E (de_op op_mod ops_mod (dw (de_ix (dw_var (pv 0)) (dw de_int) (fun _ _ => rfl))) (dw (de_fnB call_lenA cs_len (by rfl) m_len (by decide +kernel) (daw_cons (dw (de_ix (dw_var (pv 0)) (dw de_int) (fun _ _ => rfl))) daw_nil))))))
  (ds_last (ds_setR (fun _ h => ps_set (i := 2) nd rfl (by first | exact Or.inl rfl | exact Or.inr rfl) h) (dr_E (de_ix (dw (de_ix (dw_var (pv 0)) (dw de_int) (fun _ _ => rfl))) (dw_var (pv 3)) (fun _ _ => rfl))))))
  ds_nil)
  (ds_cons (ds_if (dt_cmp op_ge ops_ge (dw_var (pv 2)) (dw (de_op op_pow ops_pow (dw de_int) (dw de_int))) (nomark _))
  (ds_cons (ds_putM (de_op op_divA ops_div (dw_var (pv 2)) (dw_var (pv 1))) (de_ix (dw_var (pv 0)) (dw de_int) (fun _ _ => rfl)) (dw_var (pv 3)))
  (ds_last (ds_ret (de_op op_mod ops_mod (dw_var (pv 2)) (dw_var (pv 1))))))
  ds_nil)
  (ds_cons (ds_setR (fun _ h => ps_set (i := 4) nd rfl (by first | exact Or.inl rfl | exact Or.inr rfl) h) (dr_E (de_op op_mod ops_mod (dw (de_op op_pow ops_pow (dw (de_op op_addA ops_add (dw (de_op op_addA ops_add (dw (de_op op_mod ops_mod (dw_var (pv 2)) (dw de_int))) (dw (de_op op_mulA ops_mul (dw de_int) (dw (de_ix (dw_var (pv 0)) (dw de_int) (fun _ _ => rfl))))))) (dw de_int))) (dw de_int))) (dw de_int))))
  (ds_cons (ds_setR (fun _ h => ps_set (i := 4) nd rfl (by first | exact Or.inl rfl | exact Or.inr rfl) h) (dr_E (de_op op_mod ops_mod (dw (de_op op_pow ops_pow (dw (de_op op_addA ops_add (dw_var (pv 4)) (dw (de_op op_mulA ops_mul (dw de_int) (dw (de_ix (dw_var (pv 0)) (dw de_int) (fun _ _ => rfl))))))) (dw de_int))) (dw de_int))))
  (ds_last (ds_ret (de_op op_mod ops_mod (dw (de_op op_divA ops_div (dw_var (pv 4)) (dw de_int))) (dw_var (pv 1)))))))))))
abbrev s_lawE_one : Stmt := topS 27
theorem sc_lawE_one : FnScope ["_law_deck_here", "_law_items"] ["_law_deck_here", "_law_items"] (defScope s_lawE_one) := ⟨rfl, rfl, rfl, by decide +kernel, rfl, by decide +kernel, by decide +kernel⟩
theorem fn_lawE_one {f : Addr} {fd : FuncData} (F : Fun K "_law_one" "_law_one" s_lawE_one f fd) (m_len : mg "len" = none) (c_lawE_draw : Cal P w K mg base L2.CX0 1 "_law_draw" sp_lawE_draw) : FnG P w K mg base L2.CX0 2 f fd ["_law_deck_here", "_law_items"] (liftP K mg sp_lawE_one) := by
  refine FnG.ofD (k := 1) F sc_lawE_one len_lawE_one b_lawE_one ok_lawE_one fun cdv A outer s H E B quiet room => ?_
  have nd := sc_lawE_one.nd
  exact (ds_last (ds_ret (de_ix (dw_var (pv 1)) (dw (de_call c_lawE_draw quiet (room.mono (by decide)) (by rfl) (da_cons (de_var (pv 0)) (da_cons (de_fnB call_lenA cs_len (by rfl) m_len (by decide +kernel) (daw_cons (dw_var (pv 1)) daw_nil)) da_nil)))) (fun _ _ => rfl))))
abbrev s_lawE_word : Stmt := topS 28
theorem sc_lawE_word : FnScope ["_law_deck_here", "_law_most", "_law_letters", "_law_k"] ["_law_deck_here", "_law_most"] (defScope s_lawE_word) := ⟨rfl, rfl, rfl, by decide +kernel, rfl, by decide +kernel, by decide +kernel⟩
theorem fn_lawE_word {f : Addr} {fd : FuncData} (F : Fun K "_law_word" "_law_word" s_lawE_word f fd) (m_range : mg "range" = none) (c_lawE_draw : Cal P w K mg base L2.CX0 1 "_law_draw" sp_lawE_draw) (c_lawE_one : Cal P w K mg base L2.CX0 2 "_law_one" sp_lawE_one) : FnG P w K mg base L2.CX0 3 f fd ["_law_deck_here", "_law_most"] (liftP K mg sp_lawE_word) := by
  refine FnG.ofD (k := 2) F sc_lawE_word len_lawE_word b_lawE_word ok_lawE_word fun cdv A outer s H E B quiet room => ?_
  have nd := sc_lawE_word.nd
  exact (ds_cons (ds_setR (fun _ h => ps_set (i := 2) nd rfl (by first | exact Or.inl rfl | exact Or.inr rfl) h) (dr_E (de_call c_lawE_one quiet (room.mono (by decide)) (by rfl) (da_cons (de_var (pv 0)) (da_cons (de_lst (da_cons (de_str [97]) (da_cons (de_str [97, 98]) (da_cons (de_str [97, 98, 99]) (da_cons (de_str [97, 98, 99]) (da_cons (de_str [97, 98, 99, 100, 101, 102, 103, 104, 105, 106, 107, 108, 109, 110, 111, 112, 113, 114, 115, 116, 117, 118, 119, 120, 121, 122]) da_nil)))))) da_nil)))))
  (ds_last (ds_ret (de_mt PySem.F.plainAttrs_str PySem.F.slot_str_join PySem.F.type_str_join mt_join ms_join (dw (de_str [])) (daw_cons (dw (de_F (df_lc (own := [("_law_k", 3)]) (ns := [3]) rfl nd (di_rng1 (by rfl) m_range (da_cons (de_call c_lawE_draw quiet (room.mono (by decide)) (by rfl) (da_cons (de_var (pv 0)) (da_cons (de_op op_addA ops_add (dw_var (pv 1)) (dw de_int)) da_nil))) da_nil)) (blkOk_by (by kernel_rfl)) (by decide) (fun _ _ _ _ _ _ => (dg_name (pg_name (i := 3) nd rfl (by first | exact Or.inl rfl | exact Or.inr rfl)))) (fun _ _ _ _ _ => dts_nil) (fun _ _ _ _ _ => (de_call c_lawE_one quiet (room.mono (by decide)) (by rfl) (da_cons (de_var (pv 0)) (da_cons (de_var (pv 2)) da_nil))))))) daw_nil)))))
abbrev s_lawE_below : Stmt := topS 29
theorem sc_lawE_below : FnScope ["_law_deck_here", "_law_word_here", "_law_most", "_law_kept", "_law_letter"] ["_law_deck_here", "_law_word_here", "_law_most"] (defScope s_lawE_below) := ⟨rfl, rfl, rfl, by decide +kernel, rfl, by decide +kernel, by decide +kernel⟩
theorem fn_lawE_below {f : Addr} {fd : FuncData} (F : Fun K "_law_below" "_law_below" s_lawE_below f fd) (c_lawE_draw : Cal P w K mg base L2.CX0 1 "_law_draw" sp_lawE_draw) (c_lawE_word : Cal P w K mg base L2.CX0 3 "_law_word" sp_lawE_word) : FnG P w K mg base L2.CX0 4 f fd ["_law_deck_here", "_law_word_here", "_law_most"] (liftP K mg sp_lawE_below) := by
  refine FnG.ofD (k := 3) F sc_lawE_below len_lawE_below b_lawE_below ok_lawE_below fun cdv A outer s H E B quiet room => ?_
  have nd := sc_lawE_below.nd
  exact (ds_cons (ds_setR (fun _ h => ps_set (i := 3) nd rfl (by first | exact Or.inl rfl | exact Or.inr rfl) h) (dr_E (de_mt PySem.F.plainAttrs_str PySem.F.slot_str_join PySem.F.type_str_join mt_join ms_join (dw (de_str [])) (daw_cons (dw (de_F (df_lc (own := [("_law_letter", 4)]) (ns := [4]) rfl nd (di_each (de_var (pv 1))) (blkOk_by (by kernel_rfl)) (by decide) (fun _ _ _ _ _ _ => (dg_name (pg_name (i := 4) nd rfl (by first | exact Or.inl rfl | exact Or.inr rfl)))) (fun _ _ _ _ _ => (dts_one (dt_cmp op_gt ops_gt (dw (de_call c_lawE_draw quiet (room.mono (by decide)) (by rfl) (da_cons (de_var (pv 0)) (da_cons de_int da_nil)))) (dw de_int) (nomark _)))) (fun _ _ _ _ _ => (de_var (pv 4)))))) daw_nil))))
  (ds_last (ds_ret (de_slice (dw (de_op op_addA ops_add (dw_var (pv 3)) (dw (de_call c_lawE_word quiet (room.mono (by decide)) (by rfl) (da_cons (de_var (pv 0)) (da_cons de_int da_nil)))))) do_none (do_some (de_var (pv 2)))))))
abbrev s_lawE_words : Stmt := topS 30
theorem sc_lawE_words : FnScope ["_law_deck_here", "_law_many", "_law_most", "_law_found", "_law_k", "_law_beside"] ["_law_deck_here", "_law_many", "_law_most"] (defScope s_lawE_words) := ⟨rfl, rfl, rfl, by decide +kernel, rfl, by decide +kernel, by decide +kernel⟩
theorem fn_lawE_words {f : Addr} {fd : FuncData} (F : Fun K "_law_words" "_law_words" s_lawE_words f fd) (m_range : mg "range" = none) (m_tuple : mg "tuple" = none) (c_lawE_below : Cal P w K mg base L2.CX0 4 "_law_below" sp_lawE_below) (c_lawE_draw : Cal P w K mg base L2.CX0 1 "_law_draw" sp_lawE_draw) (c_lawE_one : Cal P w K mg base L2.CX0 2 "_law_one" sp_lawE_one) (c_lawE_word : Cal P w K mg base L2.CX0 3 "_law_word" sp_lawE_word) : FnG P w K mg base L2.CX0 5 f fd ["_law_deck_here", "_law_many", "_law_most"] (liftP K mg sp_lawE_words) := by
  refine FnG.ofD (k := 4) F sc_lawE_words len_lawE_words b_lawE_words ok_lawE_words fun cdv A outer s H E B quiet room => ?_
  have nd := sc_lawE_words.nd
  exact (ds_cons (ds_setR (fun _ h => ps_set (i := 3) nd rfl (by first | exact Or.inl rfl | exact Or.inr rfl) h) (dr_E (de_M (df_lst (da_cons (de_call c_lawE_word quiet (room.mono (by decide)) (by rfl) (da_cons (de_var (pv 0)) (da_cons (de_var (pv 2)) da_nil))) da_nil)))))
  (ds_cons (ds_for PassesOwn.never rfl (di_rng1 (by rfl) m_range (da_cons (de_call c_lawE_draw quiet (room.mono (by decide)) (by rfl) (da_cons (de_var (pv 0)) (da_cons (de_var (pv 1)) da_nil))) da_nil)) (dg_name (pg_name (i := 4) nd rfl (by first | exact Or.inl rfl | exact Or.inr rfl)))
  (ds_cons (ds_setR (fun _ h => ps_set (i := 5) nd rfl (by first | exact Or.inl rfl | exact Or.inr rfl) h) (dr_E (de_call c_lawE_one quiet (room.mono (by decide)) (by rfl) (da_cons (de_var (pv 0)) (da_cons (de_var (pv 3)) da_nil)))))
  (ds_last (ds_expr (de_mtA PySem.F.plainAttrs_list PySem.F.slot_list_append PySem.F.type_list_append mt_append mtt_app (dw_var (pv 3)) (da_cons (de_ix (dw (de_lst (da_cons (de_call c_lawE_below quiet (room.mono (by decide)) (by rfl) (da_cons (de_var (pv 0)) (da_cons (de_var (pv 5)) (da_cons (de_var (pv 2)) da_nil)))) (da_cons (de_var (pv 5)) (da_cons (de_call c_lawE_word quiet (room.mono (by decide)) (by rfl) (da_cons (de_var (pv 0)) (da_cons (de_var (pv 2)) da_nil))) da_nil))))) (dw (de_op op_mod ops_mod (dw (de_op op_mod ops_mod (dw (de_call c_lawE_draw quiet (room.mono (by decide)) (by rfl) (da_cons (de_var (pv 0)) (da_cons de_int da_nil)))) (dw de_int))) (dw de_int))) (fun _ _ => rfl)) da_nil))))))
  (ds_last (ds_ret (de_fnT call_tupZ cs_tuple (by rfl) m_tuple (by decide +kernel) (daw_cons (dw (de_stepL (dw_var (pv 3)) (de_ix (dw (de_lst (da_cons de_int (da_cons (de_neg de_int) da_nil)))) (dw (de_call c_lawE_draw quiet (room.mono (by decide)) (by rfl) (da_cons (de_var (pv 0)) (da_cons de_int da_nil)))) (fun _ _ => rfl)))) daw_nil))))))
abbrev s_lawE_less : Stmt := topS 31
theorem sc_lawE_less : FnScope ["_law_one_here", "_law_other", "_law_many", "_law_letter"] ["_law_one_here", "_law_other"] (defScope s_lawE_less) := ⟨rfl, rfl, rfl, by decide +kernel, rfl, by decide +kernel, by decide +kernel⟩
theorem fn_lawE_less {f : Addr} {fd : FuncData} (F : Fun K "_law_less" "_law_less" s_lawE_less f fd) (m_int : mg "int" = none) (m_len : mg "len" = none) : FnG P w K mg base L2.CX0 1 f fd ["_law_one_here", "_law_other"] (liftP K mg sp_lawE_less) := by
  refine FnG.ofD (k := 0) F sc_lawE_less len_lawE_less b_lawE_less ok_lawE_less fun cdv A outer s H E B quiet room => ?_
  have nd := sc_lawE_less.nd
  exact (ds_cons (ds_setR (fun _ h => ps_set (i := 2) nd rfl (by first | exact Or.inl rfl | exact Or.inr rfl) h) (dr_E de_int))
  (ds_cons (ds_for PassesOwn.never rfl (di_each (de_var (pv 0))) (dg_name (pg_name (i := 3) nd rfl (by first | exact Or.inl rfl | exact Or.inr rfl)))
  (ds_last (ds_setR (fun _ h => ps_set (i := 2) nd rfl (by first | exact Or.inl rfl | exact Or.inr rfl) h) (dr_E (de_op op_addA ops_add (dw_var (pv 2)) (dw (de_fnT call_int1 cs_int (by rfl) m_int (by decide +kernel) (daw_cons (dw (de_and (de_cmp op_ltA ops_lt (dw_var (pv 2)) (dw (de_fnB call_lenA cs_len (by rfl) m_len (by decide +kernel) (daw_cons (dw_var (pv 1)) daw_nil))) (nomark _)) (de_one (de_cmp (op_eqA room.units) ops_eq (dw (de_slice (dw_var (pv 1)) (do_some (de_var (pv 2))) (do_some (de_op op_addA ops_add (dw_var (pv 2)) (dw de_int))))) (dw_var (pv 3)) (nomark _))))) daw_nil))))))))
  (ds_last (ds_ret (de_op op_sub ops_sub (dw (de_fnB call_lenA cs_len (by rfl) m_len (by decide +kernel) (daw_cons (dw_var (pv 1)) daw_nil))) (dw_var (pv 2)))))))
abbrev s_law_ends : Stmt := topS 32
theorem sc_law_ends : FnScope ["_law_words_here", "_law_many", "_law_costs", "_law_found", "_law_first", "_law_sets", "_law_turn", "_law_greater", "_law_some", "_law_rest", "_law_ends_here", "_law_pairs", "_law_whole", "_law_one_here", "_law_other", "_law_end"] ["_law_words_here"] (defScope s_law_ends) := ⟨rfl, rfl, rfl, by decide +kernel, rfl, by decide +kernel, by decide +kernel⟩
theorem fn_law_ends {f : Addr} {fd : FuncData} (F : Fun K "_law_ends" "_law_ends" s_law_ends f fd) (m_len : mg "len" = none) (m_min : mg "min" = none) (m_range : mg "range" = none) (m_tuple : mg "tuple" = none) (c_lawE_less : Cal P w K mg base L2.CX0 1 "_law_less" sp_lawE_less) : FnG P w K mg base L2.CX0 2 f fd ["_law_words_here"] (liftP K mg sp_law_ends) := by
  refine FnG.ofD (k := 1) F sc_law_ends len_law_ends b_law_ends ok_law_ends fun cdv A outer s H E B quiet room => ?_
  have nd := sc_law_ends.nd
  exact (ds_cons (ds_setR (fun _ h => ps_set (i := 1) nd rfl (by first | exact Or.inl rfl | exact Or.inr rfl) h) (dr_E (de_fnB call_lenA cs_len (by rfl) m_len (by decide +kernel) (daw_cons (dw_var (pv 0)) daw_nil))))
  (ds_cons (ds_setR (fun _ h => ps_set (i := 2) nd rfl (by first | exact Or.inl rfl | exact Or.inr rfl) h) (dr_E (de_F (df_lc (own := [("_law_one_here", 13)]) (ns := [13]) rfl nd (di_each (de_var (pv 0))) (blkOk_by (by kernel_rfl)) (by decide) (fun _ _ _ _ _ _ => (dg_name (pg_name (i := 13) nd rfl (by first | exact Or.inl rfl | exact Or.inr rfl)))) (fun _ _ _ _ _ => dts_nil) (fun _ _ _ _ _ => (de_F (df_lc (own := [("_law_other", 14)]) (ns := [14]) rfl nd (di_each (de_var (pv 0))) (blkOk_by (by kernel_rfl)) (by decide) (fun _ _ _ _ _ _ => (dg_name (pg_name (i := 14) nd rfl (by first | exact Or.inl rfl | exact Or.inr rfl)))) (fun _ _ _ _ _ => dts_nil) (fun _ _ _ _ _ => (de_call c_lawE_less quiet (room.mono (by decide)) (by rfl) (da_cons (de_var (pv 13)) (da_cons (de_var (pv 14)) da_nil)))))))))))
  (ds_cons (ds_setR (fun _ h => ps_set (i := 3) nd rfl (by first | exact Or.inl rfl | exact Or.inr rfl) h) (dr_E de_newN))
  (ds_cons (ds_for PassesOwn.never rfl (di_rng1 (by rfl) m_range (da_cons (de_var (pv 1)) da_nil)) (dg_name (pg_name (i := 4) nd rfl (by first | exact Or.inl rfl | exact Or.inr rfl)))
  (ds_last (ds_putN (de_tup (da_cons de_int (da_cons (de_tup (da_cons (de_var (pv 4)) da_nil)) da_nil))) (dw_var (pv 3)) (de_tup (da_cons (de_tup (da_cons (de_var (pv 4)) da_nil)) (da_cons (de_var (pv 4)) da_nil))) room.units)))
  (ds_cons (ds_setLc (i := 5) (own := [("_law_first", 4)]) (ns := [4]) rfl nd rfl rfl (sw_true rfl rfl rfl (by decide +kernel)) (di_rng1 (by rfl) m_range (da_cons (de_var (pv 1)) da_nil)) (blkOk_by (by kernel_rfl)) (by decide) (fun _ _ _ _ _ _ => (dg_name (pg_name (i := 4) nd rfl (by first | exact Or.inl rfl | exact Or.inr rfl)))) (fun _ _ _ _ _ => dts_nil) (fun _ _ _ _ _ => (de_tup (da_cons (de_var (pv 4)) da_nil))) (hr := fun _ _ _ _ _ q => lr_val q))
  (ds_cons (ds_for PassesOwn.never rfl (di_rng1 (by rfl) m_range (da_cons (de_op op_sub ops_sub (dw_var (pv 1)) (dw de_int)) da_nil)) (dg_name (pg_name (i := 6) nd rfl (by first | exact Or.inl rfl | exact Or.inr rfl)))
  (ds_cons (ds_setR (fun _ h => ps_set (i := 7) nd rfl (by first | exact Or.inl rfl | exact Or.inr rfl) h) (dr_F (df_lst da_nil)))
  (ds_cons (ds_for PassesOwn.never rfl (di_each (de_var (pv 5))) (dg_name (pg_name (i := 8) nd rfl (by first | exact Or.inl rfl | exact Or.inr rfl)))
  (ds_last (ds_ext (fun _ h => ps_expr (pe_bm PySem.F.plainAttrs_list PySem.F.slot_list_extend PySem.F.type_list_extend mt_extend (pv 7) h)) (de_F (df_lc (own := [("_law_one_here", 13)]) (ns := [13]) rfl nd (di_rng2 (by rfl) m_range (da_cons (de_op op_addA ops_add (dw (de_ix (dw_var (pv 8)) (dw (de_neg de_int)) (fun _ _ => rfl))) (dw de_int)) (da_cons (de_var (pv 1)) da_nil))) (blkOk_by (by kernel_rfl)) (by decide) (fun _ _ _ _ _ _ => (dg_name (pg_name (i := 13) nd rfl (by first | exact Or.inl rfl | exact Or.inr rfl)))) (fun _ _ _ _ _ => dts_nil) (fun _ _ _ _ _ => (de_op op_addA ops_add (dw_var (pv 8)) (dw (de_tup (da_cons (de_var (pv 13)) da_nil))))))))))
  (ds_cons (ds_freeze 7 (ds_setR (fun _ h => ps_set (i := 5) nd rfl (by first | exact Or.inl rfl | exact Or.inr rfl) h) (dr_E (de_var (pv 7)))))
  (ds_last (ds_for PassesOwn.never rfl (di_each (de_var (pv 5))) (dg_name (pg_name (i := 8) nd rfl (by first | exact Or.inl rfl | exact Or.inr rfl)))
  (ds_last (ds_for PassesOwn.never rfl (di_each (de_var (pv 8))) (dg_name (pg_name (i := 4) nd rfl (by first | exact Or.inl rfl | exact Or.inr rfl)))
  (ds_cons (ds_setR (fun _ h => ps_set (i := 9) nd rfl (by first | exact Or.inl rfl | exact Or.inr rfl) h) (dr_E (de_fnT call_tupZ cs_tuple (by rfl) m_tuple (by decide +kernel) (daw_cons (dw (de_F (df_lc (own := [("_law_one_here", 13)]) (ns := [13]) rfl nd (di_each (de_var (pv 8))) (blkOk_by (by kernel_rfl)) (by decide) (fun _ _ _ _ _ _ => (dg_name (pg_name (i := 13) nd rfl (by first | exact Or.inl rfl | exact Or.inr rfl)))) (fun _ _ _ _ _ => (dts_one (dt_cmp (op_neA room.units) ops_ne (dw_var (pv 13)) (dw_var (pv 4)) (nomark _)))) (fun _ _ _ _ _ => (de_var (pv 13)))))) daw_nil))))
  (ds_cons (ds_setLc (i := 10) (own := [("_law_one_here", 13)]) (ns := [13]) rfl nd rfl rfl (sw_true rfl rfl rfl (by decide +kernel)) (di_each (de_var (pv 9))) (blkOk_by (by kernel_rfl)) (by decide) (fun _ _ _ _ _ _ => (dg_name (pg_name (i := 13) nd rfl (by first | exact Or.inl rfl | exact Or.inr rfl)))) (fun _ _ _ _ _ => dts_nil) (fun _ _ _ _ _ => (de_getN room.units (dw_var (pv 3)) (de_tup (da_cons (de_var (pv 9)) (da_cons (de_var (pv 13)) da_nil))))) (hr := fun _ _ _ _ _ q => lr_val q))
  (ds_cons (ds_setLc (i := 11) (own := [("_law_end", 15)]) (ns := [15]) rfl nd rfl rfl (sw_true rfl rfl rfl (by decide +kernel)) (di_each (de_var (pv 10))) (blkOk_by (by kernel_rfl)) (by decide) (fun _ _ _ _ _ _ => (dg_name (pg_name (i := 15) nd rfl (by first | exact Or.inl rfl | exact Or.inr rfl)))) (fun _ _ _ _ _ => dts_nil) (fun _ _ _ _ _ => (de_tup (da_cons (de_op op_addA ops_add (dw (de_ix (dw (de_ix (dw_var (pv 2)) (dw_var (pv 4)) (fun _ _ => rfl))) (dw (de_ix (dw (de_ix (dw_var (pv 15)) (dw de_int) (fun _ _ => rfl))) (dw de_int) (fun _ _ => rfl))) (fun _ _ => rfl))) (dw (de_ix (dw_var (pv 15)) (dw de_int) (fun _ _ => rfl)))) (da_cons (de_op op_addA ops_add (dw (de_tup (da_cons (de_var (pv 4)) da_nil))) (dw (de_ix (dw_var (pv 15)) (dw de_int) (fun _ _ => rfl)))) da_nil)))) (hr := fun _ _ _ _ _ q => lr_val q))
  (ds_last (ds_putN (de_fnB (call_minD rfl room.units) cs_minD (by rfl) m_min (by decide +kernel) (daw_cons (dw_var (pv 11)) daw_nil)) (dw_var (pv 3)) (de_tup (da_cons (de_var (pv 8)) (da_cons (de_var (pv 4)) da_nil))) room.units)))))))))))))
  (ds_cons (ds_setR (fun _ h => ps_set (i := 12) nd rfl (by first | exact Or.inl rfl | exact Or.inr rfl) h) (dr_E (de_trng rfl (by rfl) m_tuple (by rfl) m_range (dw_var (pv 1)))))
  (ds_last (ds_ret (de_F (df_lc (own := [("_law_first", 4)]) (ns := [4]) rfl nd (di_rng1 (by rfl) m_range (da_cons (de_var (pv 1)) da_nil)) (blkOk_by (by kernel_rfl)) (by decide) (fun _ _ _ _ _ _ => (dg_name (pg_name (i := 4) nd rfl (by first | exact Or.inl rfl | exact Or.inr rfl)))) (fun _ _ _ _ _ => dts_nil) (fun _ _ _ _ _ => (de_getN room.units (dw_var (pv 3)) (de_tup (da_cons (de_var (pv 12)) (da_cons (de_var (pv 4)) da_nil))))))))))))))))
abbrev s_law : Stmt := topS 33
theorem sc_law : FnScope ["_law_script", "_law_deck_here", "_law_turn", "_law_words_here", "_law_ends_here", "_law_due", "_law_first", "_law_end"] ["_law_script"] (defScope s_law) := ⟨rfl, rfl, rfl, by decide +kernel, rfl, by decide +kernel, by decide +kernel⟩
theorem fn_law {f : Addr} {fd : FuncData} (F : Fun K "law" "law" s_law f fd) (m_len : mg "len" = none) (m_min : mg "min" = none) (m_range : mg "range" = none) (m_repr : mg "repr" = none) (c_lawE_deck : Cal P w K mg base L2.CX0 1 "_law_deck" sp_lawE_deck) (c_law_ends : Cal P w K mg base L2.CX0 2 "_law_ends" sp_law_ends) (c_lawE_words : Cal P w K mg base L2.CX0 5 "_law_words" sp_lawE_words) (c_best_after : Cal P w K mg base L2.CX0 5 "best_after" sp_best_after) (c_best_order : Cal P w K mg base L2.CX0 5 "best_order" sp_best_order) : FnG P w K mg base L2.CX0 6 f fd ["_law_script"] (liftP K mg sp_law) := by
  refine FnG.ofD (k := 5) F sc_law len_law b_law ok_law fun cdv A outer s H E B quiet room => ?_
  have nd := sc_law.nd
  exact (ds_cons (ds_setR (fun _ h => ps_set (i := 1) nd rfl (by first | exact Or.inl rfl | exact Or.inr rfl) h) (dr_E (de_call c_lawE_deck quiet (room.mono (by decide)) (by rfl) (da_cons (de_var (pv 0)) da_nil))))
  (ds_cons (ds_for PassesOwn.never rfl (di_rng1 (by rfl) m_range (da_cons de_int da_nil)) (dg_name (pg_name (i := 2) nd rfl (by first | exact Or.inl rfl | exact Or.inr rfl)))
  (ds_cons (ds_setR (fun _ h => ps_set (i := 3) nd rfl (by first | exact Or.inl rfl | exact Or.inr rfl) h) (dr_E (de_call c_lawE_words quiet (room.mono (by decide)) (by rfl) (da_cons (de_var (pv 1)) (da_cons (de_ix (dw (de_lst (da_cons de_int (da_cons de_int da_nil)))) (dw_var (pv 2)) (fun _ _ => rfl)) (da_cons (de_ix (dw (de_lst (da_cons de_int (da_cons de_int da_nil)))) (dw_var (pv 2)) (fun _ _ => rfl)) da_nil))))))
  (ds_cons (ds_setR (fun _ h => ps_set (i := 4) nd rfl (by first | exact Or.inl rfl | exact Or.inr rfl) h) (dr_E (de_call c_law_ends quiet (room.mono (by decide)) (by rfl) (da_cons (de_var (pv 3)) da_nil))))
  (ds_cons (ds_if (dt_cmp (op_neA room.units) ops_ne (dw (de_fnB (call_reprA quiet room.units) cs_repr (by rfl) m_repr (by decide +kernel) (daw_cons (dw (de_F (df_lc (own := [("_law_first", 6)]) (ns := [6]) rfl nd (di_rng1 (by rfl) m_range (da_cons (de_fnB call_lenA cs_len (by rfl) m_len (by decide +kernel) (daw_cons (dw_var (pv 3)) daw_nil)) da_nil)) (blkOk_by (by kernel_rfl)) (by decide) (fun _ _ _ _ _ _ => (dg_name (pg_name (i := 6) nd rfl (by first | exact Or.inl rfl | exact Or.inr rfl)))) (fun _ _ _ _ _ => dts_nil) (fun _ _ _ _ _ => (de_call c_best_after quiet (room.mono (by decide)) (by rfl) (da_cons (de_var (pv 3)) (da_cons (de_var (pv 6)) da_nil))))))) daw_nil))) (dw (de_fnB (call_reprA quiet room.units) cs_repr (by rfl) m_repr (by decide +kernel) (daw_cons (dw (de_F (df_lc (own := [("_law_end", 7)]) (ns := [7]) rfl nd (di_each (de_var (pv 4))) (blkOk_by (by kernel_rfl)) (by decide) (fun _ _ _ _ _ _ => (dg_name (pg_name (i := 7) nd rfl (by first | exact Or.inl rfl | exact Or.inr rfl)))) (fun _ _ _ _ _ => dts_nil) (fun _ _ _ _ _ => (de_ix (dw_var (pv 7)) (dw de_int) (fun _ _ => rfl)))))) daw_nil))) (nomark _))
  (ds_last (ds_ret de_bl))
  ds_nil)
  (ds_cons (ds_setR (fun _ h => ps_set (i := 5) nd rfl (by first | exact Or.inl rfl | exact Or.inr rfl) h) (dr_E (de_ix (dw (de_fnB (call_minD rfl room.units) cs_minD (by rfl) m_min (by decide +kernel) (daw_cons (dw (de_F (df_lc (own := [("_law_end", 7)]) (ns := [7]) rfl nd (di_each (de_var (pv 4))) (blkOk_by (by kernel_rfl)) (by decide) (fun _ _ _ _ _ _ => (dg_name (pg_name (i := 7) nd rfl (by first | exact Or.inl rfl | exact Or.inr rfl)))) (fun _ _ _ _ _ => dts_nil) (fun _ _ _ _ _ => (de_tup (da_cons (de_op op_addA ops_add (dw (de_fnB call_lenA cs_len (by rfl) m_len (by decide +kernel) (daw_cons (dw (de_ix (dw_var (pv 3)) (dw (de_ix (dw (de_ix (dw_var (pv 7)) (dw de_int) (fun _ _ => rfl))) (dw de_int) (fun _ _ => rfl))) (fun _ _ => rfl))) daw_nil))) (dw (de_ix (dw_var (pv 7)) (dw de_int) (fun _ _ => rfl)))) (da_cons (de_ix (dw_var (pv 7)) (dw de_int) (fun _ _ => rfl)) da_nil))))))) daw_nil))) (dw de_int) (fun _ _ => rfl))))
  (ds_last (ds_if (dt_cmp (op_neA room.units) ops_ne (dw (de_fnB (call_reprA quiet room.units) cs_repr (by rfl) m_repr (by decide +kernel) (daw_cons (dw (de_call c_best_order quiet (room.mono (by decide)) (by rfl) (da_cons (de_var (pv 3)) da_nil))) daw_nil))) (dw (de_fnB (call_reprA quiet room.units) cs_repr (by rfl) m_repr (by decide +kernel) (daw_cons (dw_var (pv 5)) daw_nil))) (nomark _))
  (ds_last (ds_ret de_bl))
  ds_nil)))))))
  (ds_last (ds_ret de_bl))))
end
theorem all_mk {P : Program} {w : World} {K : PySem.W.Frag} {h : Heap} {mg : Str → Option Value} {fa : Addr} (X : K.In h) (G : h.Ns mainGlobals mg) (hfa : mg "law" = some (.ref fa))
    {f0 : Addr} {od0 an0 : Option Addr} {sl0 : Array (Option Value)} {oc0 kV0 dc0 pm0 cd0 ct0 : Value}
    {f1 : Addr} {od1 an1 : Option Addr} {sl1 : Array (Option Value)} {oc1 kV1 dc1 pm1 cd1 ct1 : Value}
    {f2 : Addr} {od2 an2 : Option Addr} {sl2 : Array (Option Value)} {oc2 kV2 dc2 pm2 cd2 ct2 : Value}
    {f3 : Addr} {od3 an3 : Option Addr} {sl3 : Array (Option Value)} {oc3 kV3 dc3 pm3 cd3 ct3 : Value}
    {f4 : Addr} {od4 an4 : Option Addr} {sl4 : Array (Option Value)} {oc4 kV4 dc4 pm4 cd4 ct4 : Value}
    {f5 : Addr} {od5 an5 : Option Addr} {sl5 : Array (Option Value)} {oc5 kV5 dc5 pm5 cd5 ct5 : Value}
    {f6 : Addr} {od6 an6 : Option Addr} {sl6 : Array (Option Value)} {oc6 kV6 dc6 pm6 cd6 ct6 : Value}
    {f7 : Addr} {od7 an7 : Option Addr} {sl7 : Array (Option Value)} {oc7 kV7 dc7 pm7 cd7 ct7 : Value}
    {f8 : Addr} {od8 an8 : Option Addr} {sl8 : Array (Option Value)} {oc8 kV8 dc8 pm8 cd8 ct8 : Value}
    {f9 : Addr} {od9 an9 : Option Addr} {sl9 : Array (Option Value)} {oc9 kV9 dc9 pm9 cd9 ct9 : Value}
    {f10 : Addr} {od10 an10 : Option Addr} {sl10 : Array (Option Value)} {oc10 kV10 dc10 pm10 cd10 ct10 : Value}
    {f11 : Addr} {od11 an11 : Option Addr} {sl11 : Array (Option Value)} {oc11 kV11 dc11 pm11 cd11 ct11 : Value}
    {f12 : Addr} {od12 an12 : Option Addr} {sl12 : Array (Option Value)} {oc12 kV12 dc12 pm12 cd12 ct12 : Value}
    {f13 : Addr} {od13 an13 : Option Addr} {sl13 : Array (Option Value)} {oc13 kV13 dc13 pm13 cd13 ct13 : Value}
    {f14 : Addr} {od14 an14 : Option Addr} {sl14 : Array (Option Value)} {oc14 kV14 dc14 pm14 cd14 ct14 : Value}
    {f15 : Addr} {od15 an15 : Option Addr} {sl15 : Array (Option Value)} {oc15 kV15 dc15 pm15 cd15 ct15 : Value}
    {f16 : Addr} {od16 an16 : Option Addr} {sl16 : Array (Option Value)} {oc16 kV16 dc16 pm16 cd16 ct16 : Value}
    {f17 : Addr} {od17 an17 : Option Addr} {sl17 : Array (Option Value)} {oc17 kV17 dc17 pm17 cd17 ct17 : Value}
    {f18 : Addr} {od18 an18 : Option Addr} {sl18 : Array (Option Value)} {oc18 kV18 dc18 pm18 cd18 ct18 : Value}
    {f19 : Addr} {od19 an19 : Option Addr} {sl19 : Array (Option Value)} {oc19 kV19 dc19 pm19 cd19 ct19 : Value}
    {f20 : Addr} {od20 an20 : Option Addr} {sl20 : Array (Option Value)} {oc20 kV20 dc20 pm20 cd20 ct20 : Value}
    {f21 : Addr} {od21 an21 : Option Addr} {sl21 : Array (Option Value)} {oc21 kV21 dc21 pm21 cd21 ct21 : Value}
    {f22 : Addr} {od22 an22 : Option Addr} {sl22 : Array (Option Value)} {oc22 kV22 dc22 pm22 cd22 ct22 : Value}
    {f23 : Addr} {od23 an23 : Option Addr} {sl23 : Array (Option Value)} {oc23 kV23 dc23 pm23 cd23 ct23 : Value}
    {f24 : Addr} {od24 an24 : Option Addr} {sl24 : Array (Option Value)} {oc24 kV24 dc24 pm24 cd24 ct24 : Value}
    (a0 : PySem.W.nsIn K mainGlobals "is_between" = some (some (.ref f0))) (l0 : K.lookup f0 = some ⟨oc0, od0, .func (PySem.W.fnOf "is_between" "is_between" (defArgs s_is_between) (defBody s_is_between) (defScope s_is_between) .none kV0 dc0 pm0 an0 cd0 ct0), sl0⟩) (c0 : PySem.W.codeIn K cd0 "is_between" = true) (k0 : PySem.W.keepIn K (.ref f0) = true)
    (a1 : PySem.W.nsIn K mainGlobals "first_pick" = some (some (.ref f1))) (l1 : K.lookup f1 = some ⟨oc1, od1, .func (PySem.W.fnOf "first_pick" "first_pick" (defArgs s_first_pick) (defBody s_first_pick) (defScope s_first_pick) .none kV1 dc1 pm1 an1 cd1 ct1), sl1⟩) (c1 : PySem.W.codeIn K cd1 "first_pick" = true) (k1 : PySem.W.keepIn K (.ref f1) = true)
    (a2 : PySem.W.nsIn K mainGlobals "count_picked" = some (some (.ref f2))) (l2 : K.lookup f2 = some ⟨oc2, od2, .func (PySem.W.fnOf "count_picked" "count_picked" (defArgs s_count_picked) (defBody s_count_picked) (defScope s_count_picked) .none kV2 dc2 pm2 an2 cd2 ct2), sl2⟩) (c2 : PySem.W.codeIn K cd2 "count_picked" = true) (k2 : PySem.W.keepIn K (.ref f2) = true)
    (a3 : PySem.W.nsIn K mainGlobals "price" = some (some (.ref f3))) (l3 : K.lookup f3 = some ⟨oc3, od3, .func (PySem.W.fnOf "price" "price" (defArgs s_price) (defBody s_price) (defScope s_price) .none kV3 dc3 pm3 an3 cd3 ct3), sl3⟩) (c3 : PySem.W.codeIn K cd3 "price" = true) (k3 : PySem.W.keepIn K (.ref f3) = true)
    (a4 : PySem.W.nsIn K mainGlobals "pairs_of" = some (some (.ref f4))) (l4 : K.lookup f4 = some ⟨oc4, od4, .func (PySem.W.fnOf "pairs_of" "pairs_of" (defArgs s_pairs_of) (defBody s_pairs_of) (defScope s_pairs_of) .none kV4 dc4 pm4 an4 cd4 ct4), sl4⟩) (c4 : PySem.W.codeIn K cd4 "pairs_of" = true) (k4 : PySem.W.keepIn K (.ref f4) = true)
    (a5 : PySem.W.nsIn K mainGlobals "count_letters" = some (some (.ref f5))) (l5 : K.lookup f5 = some ⟨oc5, od5, .func (PySem.W.fnOf "count_letters" "count_letters" (defArgs s_count_letters) (defBody s_count_letters) (defScope s_count_letters) .none kV5 dc5 pm5 an5 cd5 ct5), sl5⟩) (c5 : PySem.W.codeIn K cd5 "count_letters" = true) (k5 : PySem.W.keepIn K (.ref f5) = true)
    (a6 : PySem.W.nsIn K mainGlobals "count_places" = some (some (.ref f6))) (l6 : K.lookup f6 = some ⟨oc6, od6, .func (PySem.W.fnOf "count_places" "count_places" (defArgs s_count_places) (defBody s_count_places) (defScope s_count_places) .none kV6 dc6 pm6 an6 cd6 ct6), sl6⟩) (c6 : PySem.W.codeIn K cd6 "count_places" = true) (k6 : PySem.W.keepIn K (.ref f6) = true)
    (a7 : PySem.W.nsIn K mainGlobals "first_picks" = some (some (.ref f7))) (l7 : K.lookup f7 = some ⟨oc7, od7, .func (PySem.W.fnOf "first_picks" "first_picks" (defArgs s_first_picks) (defBody s_first_picks) (defScope s_first_picks) .none kV7 dc7 pm7 an7 cd7 ct7), sl7⟩) (c7 : PySem.W.codeIn K cd7 "first_picks" = true) (k7 : PySem.W.keepIn K (.ref f7) = true)
    (a8 : PySem.W.nsIn K mainGlobals "fewest_strokes" = some (some (.ref f8))) (l8 : K.lookup f8 = some ⟨oc8, od8, .func (PySem.W.fnOf "fewest_strokes" "fewest_strokes" (defArgs s_fewest_strokes) (defBody s_fewest_strokes) (defScope s_fewest_strokes) .none kV8 dc8 pm8 an8 cd8 ct8), sl8⟩) (c8 : PySem.W.codeIn K cd8 "fewest_strokes" = true) (k8 : PySem.W.keepIn K (.ref f8) = true)
    (a9 : PySem.W.nsIn K mainGlobals "is_order" = some (some (.ref f9))) (l9 : K.lookup f9 = some ⟨oc9, od9, .func (PySem.W.fnOf "is_order" "is_order" (defArgs s_is_order) (defBody s_is_order) (defScope s_is_order) .none kV9 dc9 pm9 an9 cd9 ct9), sl9⟩) (c9 : PySem.W.codeIn K cd9 "is_order" = true) (k9 : PySem.W.keepIn K (.ref f9) = true)
    (a10 : PySem.W.nsIn K mainGlobals "order_price" = some (some (.ref f10))) (l10 : K.lookup f10 = some ⟨oc10, od10, .func (PySem.W.fnOf "order_price" "order_price" (defArgs s_order_price) (defBody s_order_price) (defScope s_order_price) .none kV10 dc10 pm10 an10 cd10 ct10), sl10⟩) (c10 : PySem.W.codeIn K cd10 "order_price" = true) (k10 : PySem.W.keepIn K (.ref f10) = true)
    (a11 : PySem.W.nsIn K mainGlobals "members_of" = some (some (.ref f11))) (l11 : K.lookup f11 = some ⟨oc11, od11, .func (PySem.W.fnOf "members_of" "members_of" (defArgs s_members_of) (defBody s_members_of) (defScope s_members_of) .none kV11 dc11 pm11 an11 cd11 ct11), sl11⟩) (c11 : PySem.W.codeIn K cd11 "members_of" = true) (k11 : PySem.W.keepIn K (.ref f11) = true)
    (a12 : PySem.W.nsIn K mainGlobals "least_rests" = some (some (.ref f12))) (l12 : K.lookup f12 = some ⟨oc12, od12, .func (PySem.W.fnOf "least_rests" "least_rests" (defArgs s_least_rests) (defBody s_least_rests) (defScope s_least_rests) .none kV12 dc12 pm12 an12 cd12 ct12), sl12⟩) (c12 : PySem.W.codeIn K cd12 "least_rests" = true) (k12 : PySem.W.keepIn K (.ref f12) = true)
    (a13 : PySem.W.nsIn K mainGlobals "best_from" = some (some (.ref f13))) (l13 : K.lookup f13 = some ⟨oc13, od13, .func (PySem.W.fnOf "best_from" "best_from" (defArgs s_best_from) (defBody s_best_from) (defScope s_best_from) .none kV13 dc13 pm13 an13 cd13 ct13), sl13⟩) (c13 : PySem.W.codeIn K cd13 "best_from" = true) (k13 : PySem.W.keepIn K (.ref f13) = true)
    (a14 : PySem.W.nsIn K mainGlobals "best_after" = some (some (.ref f14))) (l14 : K.lookup f14 = some ⟨oc14, od14, .func (PySem.W.fnOf "best_after" "best_after" (defArgs s_best_after) (defBody s_best_after) (defScope s_best_after) .none kV14 dc14 pm14 an14 cd14 ct14), sl14⟩) (c14 : PySem.W.codeIn K cd14 "best_after" = true) (k14 : PySem.W.keepIn K (.ref f14) = true)
    (a15 : PySem.W.nsIn K mainGlobals "best_order" = some (some (.ref f15))) (l15 : K.lookup f15 = some ⟨oc15, od15, .func (PySem.W.fnOf "best_order" "best_order" (defArgs s_best_order) (defBody s_best_order) (defScope s_best_order) .none kV15 dc15 pm15 an15 cd15 ct15), sl15⟩) (c15 : PySem.W.codeIn K cd15 "best_order" = true) (k15 : PySem.W.keepIn K (.ref f15) = true)
    (a16 : PySem.W.nsIn K mainGlobals "_law_deck" = some (some (.ref f16))) (l16 : K.lookup f16 = some ⟨oc16, od16, .func (PySem.W.fnOf "_law_deck" "_law_deck" (defArgs s_lawE_deck) (defBody s_lawE_deck) (defScope s_lawE_deck) .none kV16 dc16 pm16 an16 cd16 ct16), sl16⟩) (c16 : PySem.W.codeIn K cd16 "_law_deck" = true) (k16 : PySem.W.keepIn K (.ref f16) = true)
    (a17 : PySem.W.nsIn K mainGlobals "_law_draw" = some (some (.ref f17))) (l17 : K.lookup f17 = some ⟨oc17, od17, .func (PySem.W.fnOf "_law_draw" "_law_draw" (defArgs s_lawE_draw) (defBody s_lawE_draw) (defScope s_lawE_draw) .none kV17 dc17 pm17 an17 cd17 ct17), sl17⟩) (c17 : PySem.W.codeIn K cd17 "_law_draw" = true) (k17 : PySem.W.keepIn K (.ref f17) = true)
    (a18 : PySem.W.nsIn K mainGlobals "_law_one" = some (some (.ref f18))) (l18 : K.lookup f18 = some ⟨oc18, od18, .func (PySem.W.fnOf "_law_one" "_law_one" (defArgs s_lawE_one) (defBody s_lawE_one) (defScope s_lawE_one) .none kV18 dc18 pm18 an18 cd18 ct18), sl18⟩) (c18 : PySem.W.codeIn K cd18 "_law_one" = true) (k18 : PySem.W.keepIn K (.ref f18) = true)
    (a19 : PySem.W.nsIn K mainGlobals "_law_word" = some (some (.ref f19))) (l19 : K.lookup f19 = some ⟨oc19, od19, .func (PySem.W.fnOf "_law_word" "_law_word" (defArgs s_lawE_word) (defBody s_lawE_word) (defScope s_lawE_word) .none kV19 dc19 pm19 an19 cd19 ct19), sl19⟩) (c19 : PySem.W.codeIn K cd19 "_law_word" = true) (k19 : PySem.W.keepIn K (.ref f19) = true)
    (a20 : PySem.W.nsIn K mainGlobals "_law_below" = some (some (.ref f20))) (l20 : K.lookup f20 = some ⟨oc20, od20, .func (PySem.W.fnOf "_law_below" "_law_below" (defArgs s_lawE_below) (defBody s_lawE_below) (defScope s_lawE_below) .none kV20 dc20 pm20 an20 cd20 ct20), sl20⟩) (c20 : PySem.W.codeIn K cd20 "_law_below" = true) (k20 : PySem.W.keepIn K (.ref f20) = true)
    (a21 : PySem.W.nsIn K mainGlobals "_law_words" = some (some (.ref f21))) (l21 : K.lookup f21 = some ⟨oc21, od21, .func (PySem.W.fnOf "_law_words" "_law_words" (defArgs s_lawE_words) (defBody s_lawE_words) (defScope s_lawE_words) .none kV21 dc21 pm21 an21 cd21 ct21), sl21⟩) (c21 : PySem.W.codeIn K cd21 "_law_words" = true) (k21 : PySem.W.keepIn K (.ref f21) = true)
    (a22 : PySem.W.nsIn K mainGlobals "_law_less" = some (some (.ref f22))) (l22 : K.lookup f22 = some ⟨oc22, od22, .func (PySem.W.fnOf "_law_less" "_law_less" (defArgs s_lawE_less) (defBody s_lawE_less) (defScope s_lawE_less) .none kV22 dc22 pm22 an22 cd22 ct22), sl22⟩) (c22 : PySem.W.codeIn K cd22 "_law_less" = true) (k22 : PySem.W.keepIn K (.ref f22) = true)
    (a23 : PySem.W.nsIn K mainGlobals "_law_ends" = some (some (.ref f23))) (l23 : K.lookup f23 = some ⟨oc23, od23, .func (PySem.W.fnOf "_law_ends" "_law_ends" (defArgs s_law_ends) (defBody s_law_ends) (defScope s_law_ends) .none kV23 dc23 pm23 an23 cd23 ct23), sl23⟩) (c23 : PySem.W.codeIn K cd23 "_law_ends" = true) (k23 : PySem.W.keepIn K (.ref f23) = true)
    (a24 : PySem.W.nsIn K mainGlobals "law" = some (some (.ref f24))) (l24 : K.lookup f24 = some ⟨oc24, od24, .func (PySem.W.fnOf "law" "law" (defArgs s_law) (defBody s_law) (defScope s_law) .none kV24 dc24 pm24 an24 cd24 ct24), sl24⟩) (c24 : PySem.W.codeIn K cd24 "law" = true) (k24 : PySem.W.keepIn K (.ref f24) = true)
    (z_abs : PySem.W.nsIn K mainGlobals "abs" = some none)
    (z_all : PySem.W.nsIn K mainGlobals "all" = some none)
    (z_bool : PySem.W.nsIn K mainGlobals "bool" = some none)
    (z_int : PySem.W.nsIn K mainGlobals "int" = some none)
    (z_isinstance : PySem.W.nsIn K mainGlobals "isinstance" = some none)
    (z_len : PySem.W.nsIn K mainGlobals "len" = some none)
    (z_list : PySem.W.nsIn K mainGlobals "list" = some none)
    (z_min : PySem.W.nsIn K mainGlobals "min" = some none)
    (z_range : PySem.W.nsIn K mainGlobals "range" = some none)
    (z_repr : PySem.W.nsIn K mainGlobals "repr" = some none)
    (z_set : PySem.W.nsIn K mainGlobals "set" = some none)
    (z_sum : PySem.W.nsIn K mainGlobals "sum" = some none)
    (z_tuple : PySem.W.nsIn K mainGlobals "tuple" = some none)
    (z_zip : PySem.W.nsIn K mainGlobals "zip" = some none) :
    ∃ fd : FuncData, (∀ (s : Shared) (v : Value), BindsTo s fd ⟨[v], []⟩ [("_law_script", v)]) ∧ ∀ base : Heap, K.In base → base.Ns mainGlobals mg → FnG P w K mg base L2.CX0 6 fa fd ["_law_script"] (liftP K mg sp_law) := by
  have e := hfa.symm.trans (PySem.W.mg_of X G a24)
  cases e
  have F0 := fun_mk (st := s_is_between) l0 c0 k0
  have G0 := PySem.W.mg_of X G a0
  have F1 := fun_mk (st := s_first_pick) l1 c1 k1
  have G1 := PySem.W.mg_of X G a1
  have F2 := fun_mk (st := s_count_picked) l2 c2 k2
  have G2 := PySem.W.mg_of X G a2
  have F3 := fun_mk (st := s_price) l3 c3 k3
  have G3 := PySem.W.mg_of X G a3
  have F4 := fun_mk (st := s_pairs_of) l4 c4 k4
  have G4 := PySem.W.mg_of X G a4
  have F5 := fun_mk (st := s_count_letters) l5 c5 k5
  have G5 := PySem.W.mg_of X G a5
  have F6 := fun_mk (st := s_count_places) l6 c6 k6
  have G6 := PySem.W.mg_of X G a6
  have F7 := fun_mk (st := s_first_picks) l7 c7 k7
  have G7 := PySem.W.mg_of X G a7
  have F8 := fun_mk (st := s_fewest_strokes) l8 c8 k8
  have G8 := PySem.W.mg_of X G a8
  have F9 := fun_mk (st := s_is_order) l9 c9 k9
  have G9 := PySem.W.mg_of X G a9
  have F10 := fun_mk (st := s_order_price) l10 c10 k10
  have G10 := PySem.W.mg_of X G a10
  have F11 := fun_mk (st := s_members_of) l11 c11 k11
  have G11 := PySem.W.mg_of X G a11
  have F12 := fun_mk (st := s_least_rests) l12 c12 k12
  have G12 := PySem.W.mg_of X G a12
  have F13 := fun_mk (st := s_best_from) l13 c13 k13
  have G13 := PySem.W.mg_of X G a13
  have F14 := fun_mk (st := s_best_after) l14 c14 k14
  have G14 := PySem.W.mg_of X G a14
  have F15 := fun_mk (st := s_best_order) l15 c15 k15
  have G15 := PySem.W.mg_of X G a15
  have F16 := fun_mk (st := s_lawE_deck) l16 c16 k16
  have G16 := PySem.W.mg_of X G a16
  have F17 := fun_mk (st := s_lawE_draw) l17 c17 k17
  have G17 := PySem.W.mg_of X G a17
  have F18 := fun_mk (st := s_lawE_one) l18 c18 k18
  have G18 := PySem.W.mg_of X G a18
  have F19 := fun_mk (st := s_lawE_word) l19 c19 k19
  have G19 := PySem.W.mg_of X G a19
  have F20 := fun_mk (st := s_lawE_below) l20 c20 k20
  have G20 := PySem.W.mg_of X G a20
  have F21 := fun_mk (st := s_lawE_words) l21 c21 k21
  have G21 := PySem.W.mg_of X G a21
  have F22 := fun_mk (st := s_lawE_less) l22 c22 k22
  have G22 := PySem.W.mg_of X G a22
  have F23 := fun_mk (st := s_law_ends) l23 c23 k23
  have G23 := PySem.W.mg_of X G a23
  have F24 := fun_mk (st := s_law) l24 c24 k24
  have m_abs := PySem.W.mg_none_of X G z_abs
  have m_all := PySem.W.mg_none_of X G z_all
  have m_bool := PySem.W.mg_none_of X G z_bool
  have m_int := PySem.W.mg_none_of X G z_int
  have m_isinstance := PySem.W.mg_none_of X G z_isinstance
  have m_len := PySem.W.mg_none_of X G z_len
  have m_list := PySem.W.mg_none_of X G z_list
  have m_min := PySem.W.mg_none_of X G z_min
  have m_range := PySem.W.mg_none_of X G z_range
  have m_repr := PySem.W.mg_none_of X G z_repr
  have m_set := PySem.W.mg_none_of X G z_set
  have m_sum := PySem.W.mg_none_of X G z_sum
  have m_tuple := PySem.W.mg_none_of X G z_tuple
  have m_zip := PySem.W.mg_none_of X G z_zip
  refine ⟨PySem.W.fnOf "law" "law" (defArgs s_law) (defBody s_law) (defScope s_law) .none kV24 dc24 pm24 an24 cd24 ct24, fun s v => .of_eq rfl, fun base _ _ => ?_⟩
  have b0 := F0.binds (ps := ["value", "low", "high"]) fun _ _ _ _ _ _ us hl => match us, hl with | [_, _, _], _ => rfl
  have c_is_between : Cal P w K mg base L2.CX0 1 "is_between" sp_is_between := Cal.of (fn_is_between F0 m_bool m_int m_isinstance) G0 k0 b0
  have b1 := F1.binds (ps := ["one", "other"]) fun _ _ _ _ _ _ us hl => match us, hl with | [_, _], _ => rfl
  have c_first_pick : Cal P w K mg base L2.CX0 1 "first_pick" sp_first_pick := Cal.of (fn_first_pick F1 m_tuple) G1 k1 b1
  have b2 := F2.binds (ps := ["one", "other"]) fun _ _ _ _ _ _ us hl => match us, hl with | [_, _], _ => rfl
  have c_count_picked : Cal P w K mg base L2.CX0 2 "count_picked" sp_count_picked := Cal.of (fn_count_picked F2 m_len c_first_pick) G2 k2 b2
  have b3 := F3.binds (ps := ["one", "other"]) fun _ _ _ _ _ _ us hl => match us, hl with | [_, _], _ => rfl
  have c_price : Cal P w K mg base L2.CX0 3 "price" sp_price := Cal.of (fn_price F3 m_len c_count_picked) G3 k3 b3
  have b4 := F4.binds (ps := ["sheets"]) fun _ _ _ _ _ _ us hl => match us, hl with | [_], _ => rfl
  have c_pairs_of : Cal P w K mg base L2.CX0 1 "pairs_of" sp_pairs_of := Cal.of (fn_pairs_of F4 m_list m_zip) G4 k4 b4
  have b5 := F5.binds (ps := ["sheets"]) fun _ _ _ _ _ _ us hl => match us, hl with | [_], _ => rfl
  have c_count_letters : Cal P w K mg base L2.CX0 1 "count_letters" sp_count_letters := Cal.of (fn_count_letters F5 m_len m_sum) G5 k5 b5
  have b6 := F6.binds (ps := ["picks"]) fun _ _ _ _ _ _ us hl => match us, hl with | [_], _ => rfl
  have c_count_places : Cal P w K mg base L2.CX0 1 "count_places" sp_count_places := Cal.of (fn_count_places F6 m_len m_sum) G6 k6 b6
  have b7 := F7.binds (ps := ["sheets"]) fun _ _ _ _ _ _ us hl => match us, hl with | [_], _ => rfl
  have c_first_picks : Cal P w K mg base L2.CX0 2 "first_picks" sp_first_picks := Cal.of (fn_first_picks F7 m_tuple c_first_pick c_pairs_of) G7 k7 b7
  have b8 := F8.binds (ps := ["sheets"]) fun _ _ _ _ _ _ us hl => match us, hl with | [_], _ => rfl
  have c_fewest_strokes : Cal P w K mg base L2.CX0 3 "fewest_strokes" sp_fewest_strokes := Cal.of (fn_fewest_strokes F8 c_count_letters c_count_places c_first_picks) G8 k8 b8
  have b9 := F9.binds (ps := ["count", "value"]) fun _ _ _ _ _ _ us hl => match us, hl with | [_, _], _ => rfl
  have c_is_order : Cal P w K mg base L2.CX0 2 "is_order" sp_is_order := Cal.of (fn_is_order F9 m_all m_isinstance m_len m_set m_tuple c_is_between) G9 k9 b9
  have b10 := F10.binds (ps := ["sheets", "value"]) fun _ _ _ _ _ _ us hl => match us, hl with | [_, _], _ => rfl
  have c_order_price : Cal P w K mg base L2.CX0 4 "order_price" sp_order_price := Cal.of (fn_order_price F10 m_len m_tuple c_fewest_strokes c_is_order) G10 k10 b10
  have b11 := F11.binds (ps := ["left"]) fun _ _ _ _ _ _ us hl => match us, hl with | [_], _ => rfl
  have c_members_of : Cal P w K mg base L2.CX0 1 "members_of" sp_members_of := Cal.of (fn_members_of F11 m_range) G11 k11 b11
  have b12 := F12.binds (ps := ["sheets"]) fun _ _ _ _ _ _ us hl => match us, hl with | [_], _ => rfl
  have c_least_rests : Cal P w K mg base L2.CX0 4 "least_rests" sp_least_rests := Cal.of (fn_least_rests F12 m_len m_min m_range c_members_of c_price) G12 k12 b12
  have b13 := F13.binds (ps := ["sheets", "first", "rests"]) fun _ _ _ _ _ _ us hl => match us, hl with | [_, _, _], _ => rfl
  have c_best_from : Cal P w K mg base L2.CX0 4 "best_from" sp_best_from := Cal.of (fn_best_from F13 m_len m_min c_members_of c_price) G13 k13 b13
  have b14 := F14.binds (ps := ["sheets", "first"]) fun _ _ _ _ _ _ us hl => match us, hl with | [_, _], _ => rfl
  have c_best_after : Cal P w K mg base L2.CX0 5 "best_after" sp_best_after := Cal.of (fn_best_after F14 m_len c_best_from c_is_between c_least_rests) G14 k14 b14
  have b15 := F15.binds (ps := ["sheets"]) fun _ _ _ _ _ _ us hl => match us, hl with | [_], _ => rfl
  have c_best_order : Cal P w K mg base L2.CX0 5 "best_order" sp_best_order := Cal.of (fn_best_order F15 m_len m_min m_range c_best_from c_least_rests c_order_price) G15 k15 b15
  have b16 := F16.binds (ps := ["_law_script"]) fun _ _ _ _ _ _ us hl => match us, hl with | [_], _ => rfl
  have c_lawE_deck : Cal P w K mg base L2.CX0 1 "_law_deck" sp_lawE_deck := Cal.of (fn_lawE_deck F16 m_abs) G16 k16 b16
  have b17 := F17.binds (ps := ["_law_deck_here", "_law_many"]) fun _ _ _ _ _ _ us hl => match us, hl with | [_, _], _ => rfl
  have c_lawE_draw : Cal P w K mg base L2.CX0 1 "_law_draw" sp_lawE_draw := Cal.of (fn_lawE_draw F17 m_len) G17 k17 b17
  have b18 := F18.binds (ps := ["_law_deck_here", "_law_items"]) fun _ _ _ _ _ _ us hl => match us, hl with | [_, _], _ => rfl
  have c_lawE_one : Cal P w K mg base L2.CX0 2 "_law_one" sp_lawE_one := Cal.of (fn_lawE_one F18 m_len c_lawE_draw) G18 k18 b18
  have b19 := F19.binds (ps := ["_law_deck_here", "_law_most"]) fun _ _ _ _ _ _ us hl => match us, hl with | [_, _], _ => rfl
  have c_lawE_word : Cal P w K mg base L2.CX0 3 "_law_word" sp_lawE_word := Cal.of (fn_lawE_word F19 m_range c_lawE_draw c_lawE_one) G19 k19 b19
  have b20 := F20.binds (ps := ["_law_deck_here", "_law_word_here", "_law_most"]) fun _ _ _ _ _ _ us hl => match us, hl with | [_, _, _], _ => rfl
  have c_lawE_below : Cal P w K mg base L2.CX0 4 "_law_below" sp_lawE_below := Cal.of (fn_lawE_below F20 c_lawE_draw c_lawE_word) G20 k20 b20
  have b21 := F21.binds (ps := ["_law_deck_here", "_law_many", "_law_most"]) fun _ _ _ _ _ _ us hl => match us, hl with | [_, _, _], _ => rfl
  have c_lawE_words : Cal P w K mg base L2.CX0 5 "_law_words" sp_lawE_words := Cal.of (fn_lawE_words F21 m_range m_tuple c_lawE_below c_lawE_draw c_lawE_one c_lawE_word) G21 k21 b21
  have b22 := F22.binds (ps := ["_law_one_here", "_law_other"]) fun _ _ _ _ _ _ us hl => match us, hl with | [_, _], _ => rfl
  have c_lawE_less : Cal P w K mg base L2.CX0 1 "_law_less" sp_lawE_less := Cal.of (fn_lawE_less F22 m_int m_len) G22 k22 b22
  have b23 := F23.binds (ps := ["_law_words_here"]) fun _ _ _ _ _ _ us hl => match us, hl with | [_], _ => rfl
  have c_law_ends : Cal P w K mg base L2.CX0 2 "_law_ends" sp_law_ends := Cal.of (fn_law_ends F23 m_len m_min m_range m_tuple c_lawE_less) G23 k23 b23
  exact fn_law F24 m_len m_min m_range m_repr c_lawE_deck c_law_ends c_lawE_words c_best_after c_best_order
end DL
open PySem PySem.W PyProof.Rows
set_option maxHeartbeats 0 in
theorem PySem.Challenge.cw_carbonpad_k57_best_orders_of_many_sheets_holds : PySem.Challenge.rw_carbonpad_k57_best_orders_of_many_sheets.Holds := by
  w_on; o_law; k_head; (case hw => w_witness2)
  k_fill
  refine DL.end_g (l := PySem.Challenge.rw_carbonpad_k57_best_orders_of_many_sheets) (n := 63) (k := 6) (x := "_law_script") (S := DL.sp_law) rfl (by decide) rfl ⟨rfl, by decide, by decide⟩ (fun w h Y => PySem.W.kIn_of Y) ?F DL.end_law
  case F =>
    intro w mg fa h KX G hmg
    refine' DL.all_mk KX G hmg ?a0 ?l0 ?c0 ?k0 ?a1 ?l1 ?c1 ?k1 ?a2 ?l2 ?c2 ?k2 ?a3 ?l3 ?c3 ?k3 ?a4 ?l4 ?c4 ?k4 ?a5 ?l5 ?c5 ?k5 ?a6 ?l6 ?c6 ?k6 ?a7 ?l7 ?c7 ?k7 ?a8 ?l8 ?c8 ?k8 ?a9 ?l9 ?c9 ?k9 ?a10 ?l10 ?c10 ?k10 ?a11 ?l11 ?c11 ?k11 ?a12 ?l12 ?c12 ?k12 ?a13 ?l13 ?c13 ?k13 ?a14 ?l14 ?c14 ?k14 ?a15 ?l15 ?c15 ?k15 ?a16 ?l16 ?c16 ?k16 ?a17 ?l17 ?c17 ?k17 ?a18 ?l18 ?c18 ?k18 ?a19 ?l19 ?c19 ?k19 ?a20 ?l20 ?c20 ?k20 ?a21 ?l21 ?c21 ?k21 ?a22 ?l22 ?c22 ?k22 ?a23 ?l23 ?c23 ?k23 ?a24 ?l24 ?c24 ?k24 ?z_abs ?z_all ?z_bool ?z_int ?z_isinstance ?z_len ?z_list ?z_min ?z_range ?z_repr ?z_set ?z_sum ?z_tuple ?z_zip
    (case a0 => k_is); (case l0 => k_is); (case c0 => k_is); (case k0 => k_is)
    (case a1 => k_is); (case l1 => k_is); (case c1 => k_is); (case k1 => k_is)
    (case a2 => k_is); (case l2 => k_is); (case c2 => k_is); (case k2 => k_is)
    (case a3 => k_is); (case l3 => k_is); (case c3 => k_is); (case k3 => k_is)
    (case a4 => k_is); (case l4 => k_is); (case c4 => k_is); (case k4 => k_is)
    (case a5 => k_is); (case l5 => k_is); (case c5 => k_is); (case k5 => k_is)
    (case a6 => k_is); (case l6 => k_is); (case c6 => k_is); (case k6 => k_is)
    (case a7 => k_is); (case l7 => k_is); (case c7 => k_is); (case k7 => k_is)
    (case a8 => k_is); (case l8 => k_is); (case c8 => k_is); (case k8 => k_is)
    (case a9 => k_is); (case l9 => k_is); (case c9 => k_is); (case k9 => k_is)
    (case a10 => k_is); (case l10 => k_is); (case c10 => k_is); (case k10 => k_is)
    (case a11 => k_is); (case l11 => k_is); (case c11 => k_is); (case k11 => k_is)
    (case a12 => k_is); (case l12 => k_is); (case c12 => k_is); (case k12 => k_is)
    (case a13 => k_is); (case l13 => k_is); (case c13 => k_is); (case k13 => k_is)
    (case a14 => k_is); (case l14 => k_is); (case c14 => k_is); (case k14 => k_is)
    (case a15 => k_is); (case l15 => k_is); (case c15 => k_is); (case k15 => k_is)
    (case a16 => k_is); (case l16 => k_is); (case c16 => k_is); (case k16 => k_is)
    (case a17 => k_is); (case l17 => k_is); (case c17 => k_is); (case k17 => k_is)
    (case a18 => k_is); (case l18 => k_is); (case c18 => k_is); (case k18 => k_is)
    (case a19 => k_is); (case l19 => k_is); (case c19 => k_is); (case k19 => k_is)
    (case a20 => k_is); (case l20 => k_is); (case c20 => k_is); (case k20 => k_is)
    (case a21 => k_is); (case l21 => k_is); (case c21 => k_is); (case k21 => k_is)
    (case a22 => k_is); (case l22 => k_is); (case c22 => k_is); (case k22 => k_is)
    (case a23 => k_is); (case l23 => k_is); (case c23 => k_is); (case k23 => k_is)
    (case a24 => k_is); (case l24 => k_is); (case c24 => k_is); (case k24 => k_is)
    (case z_abs => k_is); (case z_all => k_is); (case z_bool => k_is); (case z_int => k_is)
    (case z_isinstance => k_is); (case z_len => k_is); (case z_list => k_is); (case z_min => k_is)
    (case z_range => k_is); (case z_repr => k_is); (case z_set => k_is); (case z_sum => k_is)
    (case z_tuple => k_is); (case z_zip => k_is)

