import PyProof.Rows.All
import Wide.All
import OpenK.AllK
import Wide.FinOn
import HandS.ForMost
import HandS.TupAny
import HandS.TupMul
import HandS.Exc
import HandS.Wide
import HandS.StrMore
import HandS.Style
import HandS.Flow
import PyProof.StrBlock2
import PyProof.ReprRoads
import HandS.NoneIn
import HandS.Deep
import PyProof.StrLawsFrom
import PyProof.Rows.StrRev
import HandS.IsInst
import HandS.Zip
import PyProof.EnumMake
import PyProof.Draws
import HandS.Star
import KE.GoesEnum
import KE.KDictZip
import HandS.DictTup
import HandS.NamedTupSort
import HandS.SortInts
import HandS.SetFor
import PyProof.P3In
import HandS.ExcIs
import HandS.ExcOwn
import HandS.ExcField
import HandS.Small
import KE.KExcInit
import KE.KExcIs
import KE.KExcLine
import HandS.Strs
import HandS.WideBits
import HandS.Replace
import HandS.ReplaceList
import PyProof.Rows.StrBetween
import HandS.Conv
import PyProof.CallStr
import PyProof.Rows.IntBool
import HandS.ExcValue
import PySem.Challenge.RW_carbonpad_k04_errors_and_limits
set_option Elab.async false
set_option linter.all false
set_option maxRecDepth 100000
set_option maxHeartbeats 1000000
namespace DL
open PySem PySem.Spec PyProof.Rows L2
/-- a tuple at p that nobody knows: it has no dict -/
def newT (H : Hp) (Q : VK) (vs : List V) : Prop := ∀ (p : Addr) (ob : Obj), H p = none → ob.dict = none → Q (.ref p) (upd H p (.frz ob (.tup vs)))
section
variable {X : Cx}
/-- the object just pushed -/
theorem fin_tup {pins : List (Addr × Obj)} {σ : L2.St} {H : Hp} {s : Shared} {Q : VK} {vs : List V} {its : List Value} (I : Inv X pins σ H s) (hz : vs.length ≤ sizeLine) (r : Vals vs its) (q : newT H Q vs) :
    EP X pins σ Q (.ref s.heap.objs.size) { s with heap := s.heap.push { cls := .type "tuple", data := .seq its.toArray } } :=
  ⟨.ref s.heap.objs.size, _, I.laid (t' := s.toks) (o := .frz { cls := .type "tuple", data := .seq its.toArray } (.tup vs)) (fun b ob q => Heap.get?_push_of_some _ q) (Nat.le_refl _) ⟨Heap.get?_push_size _ rfl, hz, its, r, IsTup.new _ _⟩, rfl, q _ _ (I.hok.fresh (Nat.le_refl _)) rfl⟩
/-- a display -/
def tTupZ (t : TA) : TE := fun σ H Q => t σ H fun xs H1 => xs.length ≤ sizeLine ∧ newT H1 Q xs
theorem pe_tupZ {es : List Expr} {t : TA} {x1 : Nat} {pos : Pos} (h : PA X es t) : PE X (.Tuple es x1 pos) (tTupZ t) := by
  refine ⟨fun pins s σ H Q I hq => ?_⟩
  refine wpAny_Tuple_spliced (thn (h.run pos pins s σ H _ I hq) fun us s1 ⟨xs, H1, I1, r, z, q⟩ => ⟨by rw [← r.length]; exact z, ?_⟩)
  exact fin_tup I1 z r q
/-- x + y -/
def rCatZ (K : PySem.W.Frag) : R2 := fun x y H Q => ∃ a b xs ys, x = .ref a ∧ y = .ref b ∧ SqT K H a xs ∧ SqT K H b ys ∧ xs.length + ys.length ≤ sizeLine ∧
  (xs = [] → Q (.ref b) H) ∧ (xs ≠ [] → ys = [] → Q (.ref a) H) ∧ (xs ≠ [] → ys ≠ [] → newT H Q (xs ++ ys))
theorem op_catZ : OpR X (binaryOp .Add) (rCatZ X.K) := by
  intro pins s σ H x y v u Q I rx ry h
  obtain ⟨a, b, xs, ys, rfl, rfl, ha, hb, hz, q0, q1, q2⟩ := h
  cases rx
  cases ry
  obtain ⟨its, r1, p1, _⟩ := I.tuple ha
  obtain ⟨its2, r2, p2, _⟩ := I.tuple hb
  by_cases hx : xs = []
  · subst hx
    cases r1
    exact cat_tup0 p1 p2 ⟨.ref b, H, I, rfl, q0 rfl⟩
  · refine HT.cat_tup p1 p2 (fun z => hx (r1.nil_iff.mp z)) (fun z => ⟨.ref a, H, I, rfl, q1 hx (r2.nil_iff.mp z)⟩) (fun z => ?_) (by rw [← r1.length, ← r2.length]; exact hz)
    exact fin_tup I (by rw [List.length_append]; exact hz) (r1.append r2) (q2 hx fun w => z (r2.nil_iff.mpr w))
/-- x * k, x not empty, 2 <= k -/
def rRepZ (K : PySem.W.Frag) : R2 := fun x y H Q => ∃ l k xs, x = .ref l ∧ y = .int k ∧ SqT K H l xs ∧ xs ≠ [] ∧ 2 ≤ k ∧ k ≤ 1000 ∧ xs.length ≤ 1000 ∧ newT H Q (List.replicate k.toNat xs).flatten
theorem op_repZ : OpR X (binaryOp .Mult) (rRepZ X.K) := by
  intro pins s σ H x y v u Q I rx ry h
  obtain ⟨l, k, xs, rfl, rfl, hT, hne, h1, h2, hz, q⟩ := h
  cases rx
  obtain ⟨t, rfl⟩ := ry
  obtain ⟨its, r, ⟨⟨cls, dd, data, sl⟩, ho, hc, n, hd⟩, hs⟩ := I.tuple hT
  simp only at hc hd
  subst hc hd
  have el : its.length = xs.length := r.length.symm
  have ne : its ≠ [] := fun e => hne (List.eq_nil_of_length_eq_zero (by rw [← el, e]; rfl))
  have em : its.toArray.isEmpty = false := by cases its with | nil => exact absurd rfl ne | cons a b => rfl
  have es : its.toArray.size = xs.length := by rw [List.size_toArray, el]
  have hm : ((its.toArray.size : Nat) : Int) * k ≤ 1000000 := by
    rw [es]
    have a1 : ((xs.length : Nat) : Int) * k ≤ 1000 * k := Int.mul_le_mul_of_nonneg_right (by omega) (by omega)
    omega
  have a1 : k.toNat * xs.length ≤ 1000 * 1000 := Nat.mul_le_mul (by omega) hz
  have fl : (List.replicate k.toNat its).flatten.length ≤ sizeLine := by rw [PyProof.Rows.lm_len_rep_flat, el, sizeLine_eq]; omega
  have d0 : (decide (k < -(2 ^ 63)) || decide (k ≥ 2 ^ 63)) = false := by rw [decide_eq_false (by omega), decide_eq_false (by omega)] <;> rfl
  have d1 : (its.toArray.isEmpty || k == 1) = false := by rw [em, Bool.false_or]; exact beq_eq_false_iff_ne.mpr (by omega)
  have d2 : (decide (k ≤ 0) || its.toArray.isEmpty) = false := by rw [em, Bool.or_false]; exact decide_eq_false (by omega)
  have d4 : Builtin.Tuple.tupleTooMany (((its.toArray.size : Nat) : Int) * k) = false := by unfold Builtin.Tuple.tupleTooMany; rw [sizeLine_eq]; exact decide_eq_false (by omega)
  refine wpAny_binaryOp_repeat_ref (T := "tuple") (U := "int") (by decide) ⟨_, ho, rfl⟩ (fun s' => typeIs_int s' k t) noFill_tuple_mul F.fills_int_mul F.slot_int_rmul repeat_tuple F.slot_int_index.lookup
    (call_meets F.slot_int_rmul (typeIs_int s k t) F.entry_int_rmul (F.args_int_rmul_2 _ _) (int_rmul_tuple k t l its.toArray n dd sl)
      ⟨ho, rfl, ⟨_, ho, rfl⟩, call_meets F.slot_tuple_mul ⟨_, ho, rfl⟩ F.entry_tuple_mul (F.args_tuple_mul_2 _ _) (tuple_mulW l its.toArray n dd sl k t d0 d1 d2 (by omega) d4 (by rw [size_rep, List.size_toArray]; exact fl)) ⟨ho, ?_⟩⟩)
  rw [size_rep]
  exact fin_tup I (by rw [PyProof.Rows.lm_len_rep_flat, sizeLine_eq]; omega) (r.rep k.toNat) q
end
end DL

namespace DL
open PySem PySem.Spec PyProof.Rows L2

/-- a text by its signs -/
abbrev S (l : List Nat) : Str := ⟨l.toArray⟩
/-- data as a tree; ref: an object that changes; obj: an own instance that does not; exn: an exception that was caught; gl: a def or a class of the module; scr: the script -/
inductive D where
  | non | bl (b : Bool) | int (i : Int) | str (x : List Nat) | tup (xs : List D) | lst (xs : List D)
  | dct (kvs : List (Key × D)) | scr (ns : List Int) | ref (a : Addr) | ty (n : String) | gl (x : Str) | pr (a b : D) | obj (c : Str) (fs : List (Str × D)) | exn (c : Str) (fs : List (Str × D))
/-- a tuple that is known to have no dict -/
def PlT (F : Hp) (a : Addr) (vs : List V) : Prop := ∃ ob : Obj, ob.dict = none ∧ F a = some (.frz ob (.tup vs))
/-- an object that changes -/
inductive MO where
  | lst (xs : List D) | ins (c : Str) (fs : List (Str × D)) | dct (kvs : List (Key × D)) | dtt (kvs : List (List Key × D)) | xd (fs : List (Str × D))
abbrev Sto := Addr → Option MO
def sset (μ : Sto) (a : Addr) (o : MO) : Sto := fun b => if b = a then some o else μ b
theorem sset_same {μ : Sto} {a : Addr} {o : MO} : sset μ a o a = some o := if_pos rfl
theorem sset_ne {μ : Sto} {a b : Addr} {o : MO} (h : b ≠ a) : sset μ a o b = μ b := if_neg h
/-- what a slot holds: a value; a list of the frame's own, which nobody else knows -/
inductive DS where
  | val (d : D) | own (xs : List D)
abbrev DEnv := List (Option DS)

mutual
inductive Dt (K : PySem.W.Frag) (mg : Str → Option Value) (F : Hp) : V → D → Prop
  | non : Dt K mg F .non .non
  | bl (b : Bool) : Dt K mg F (.bl b) (.bl b)
  | int (i : Int) : Dt K mg F (.int i) (.int i)
  | str (x : List Nat) : Dt K mg F (.str (S x)) (.str x)
  | tup {a : Addr} {vs : List V} {ds : List D} : PlT F a vs → Dts K mg F vs ds → Dt K mg F (.ref a) (.tup ds)
  | lst {a : Addr} {vs : List V} {ds : List D} : F a = some (.lst vs) → Dts K mg F vs ds → Dt K mg F (.ref a) (.lst ds)
  | dct {a : Addr} {vs : List (Key × V)} {ds : List (Key × D)} : F a = some (.dK vs) → Dks K mg F vs ds → Dt K mg F (.ref a) (.dct ds)
  | scr {a : Addr} {ns : List Int} : SqL K F a (ns.map V.int) → Dt K mg F (.ref a) (.scr ns)
  | ref (a : Addr) : Dt K mg F (.ref a) (.ref a)
  | ty (n : String) : Dt K mg F (.ty n) (.ty n)
  | gl {x : Str} {a : Addr} : mg x = some (.ref a) → Dt K mg F (.ref a) (.gl x)
  | pr {a : Addr} {v w : V} {d e : D} : F a = some (.tup [v, w]) → Dt K mg F v d → Dt K mg F w e → Dt K mg F (.ref a) (.pr d e)
  | obj {a C dx : Addr} {c : Str} {vfs : List (Str × V)} {fs : List (Str × D)} : mg c = some (.ref C) → F a = some (.ins C dx vfs) → vfs.map (·.1) = fs.map (·.1) → Dts K mg F (vfs.map (·.2)) (fs.map (·.2)) → Dt K mg F (.ref a) (.obj c fs)
  | exn0 {a C : Addr} {c : Str} {oe : Obj} : mg c = some (.ref C) → F a = some (.frz oe (.own 0)) → Zc (.ref C) none oe → (∃ vs, oe.data = .fields vs) → Dt K mg F (.ref a) (.exn c [])
  | exn1 {a C dx : Addr} {c : Str} {oe : Obj} {vfs : List (Str × V)} {fs : List (Str × D)} : mg c = some (.ref C) → F a = some (.frz oe (.own 0)) → Zc (.ref C) (some dx) oe → (∃ vs, oe.data = .fields vs) → F dx = some (.xd vfs) → vfs.map (·.1) = fs.map (·.1) → Dts K mg F (vfs.map (·.2)) (fs.map (·.2)) → Dt K mg F (.ref a) (.exn c fs)
inductive Dts (K : PySem.W.Frag) (mg : Str → Option Value) (F : Hp) : List V → List D → Prop
  | nil : Dts K mg F [] []
  | cons {v : V} {vs : List V} {d : D} {ds : List D} : Dt K mg F v d → Dts K mg F vs ds → Dts K mg F (v :: vs) (d :: ds)
inductive Dks (K : PySem.W.Frag) (mg : Str → Option Value) (F : Hp) : List (Key × V) → List (Key × D) → Prop
  | nil : Dks K mg F [] []
  | cons {k : Key} {v : V} {vs : List (Key × V)} {d : D} {ds : List (Key × D)} : Dt K mg F v d → Dks K mg F vs ds → Dks K mg F ((k, v) :: vs) ((k, d) :: ds)
end

section
variable {K : PySem.W.Frag} {mg : Str → Option Value} {F F' H H' : Hp}
theorem SqT.mono' {a : Addr} {vs : List V} (hF : ∀ a o, F a = some o → F' a = some o) (h : SqT K F a vs) : SqT K F' a vs := by
  rcases h with (h | ⟨o, h⟩) | h
  · exact .inl (.inl (hF _ _ h))
  · exact .inl (.inr ⟨o, hF _ _ h⟩)
  · exact .inr h
theorem PlT.mono {a : Addr} {vs : List V} (hF : ∀ a o, F a = some o → F' a = some o) (h : PlT F a vs) : PlT F' a vs := let ⟨ob, h1, h2⟩ := h; ⟨ob, h1, hF _ _ h2⟩
theorem PlT.sq {a : Addr} {vs : List V} (h : PlT F a vs) : SqT K F a vs := let ⟨ob, _, h2⟩ := h; .inl (.inr ⟨ob, h2⟩)
theorem SqL.mono' {a : Addr} {vs : List V} (hF : ∀ a o, F a = some o → F' a = some o) (h : SqL K F a vs) : SqL K F' a vs := by
  rcases h with (h | ⟨o, h⟩) | h
  · exact .inl (.inl (hF _ _ h))
  · exact .inl (.inr ⟨o, hF _ _ h⟩)
  · exact .inr h
mutual
theorem Dt.mono (hF : ∀ a o, F a = some o → F' a = some o) : ∀ {v : V} {d : D}, Dt K mg F v d → Dt K mg F' v d
  | _, _, .non => .non
  | _, _, .bl b => .bl b
  | _, _, .int i => .int i
  | _, _, .str x => .str x
  | _, _, .tup h r => .tup (h.mono hF) (Dts.mono hF r)
  | _, _, .lst h r => .lst (hF _ _ h) (Dts.mono hF r)
  | _, _, .dct h r => .dct (hF _ _ h) (Dks.mono hF r)
  | _, _, .scr h => .scr (SqL.mono' hF h)
  | _, _, .ref a => .ref a
  | _, _, .ty n => .ty n
  | _, _, .gl h => .gl h
  | _, _, .pr h a b => .pr (hF _ _ h) (Dt.mono hF a) (Dt.mono hF b)
  | _, _, .obj h1 h2 h3 h4 => .obj h1 (hF _ _ h2) h3 (Dts.mono hF h4)
  | _, _, .exn0 h1 h2 h3 h4 => .exn0 h1 (hF _ _ h2) h3 h4
  | _, _, .exn1 h1 h2 h3 h4 h5 h6 h7 => .exn1 h1 (hF _ _ h2) h3 h4 (hF _ _ h5) h6 (Dts.mono hF h7)
theorem Dts.mono (hF : ∀ a o, F a = some o → F' a = some o) : ∀ {vs : List V} {ds : List D}, Dts K mg F vs ds → Dts K mg F' vs ds
  | _, _, .nil => .nil
  | _, _, .cons h r => .cons (Dt.mono hF h) (Dts.mono hF r)
theorem Dks.mono (hF : ∀ a o, F a = some o → F' a = some o) : ∀ {vs : List (Key × V)} {ds : List (Key × D)}, Dks K mg F vs ds → Dks K mg F' vs ds
  | _, _, .nil => .nil
  | _, _, .cons h r => .cons (Dt.mono hF h) (Dks.mono hF r)
end
theorem Dts.length : ∀ {vs : List V} {ds : List D}, Dts K mg F vs ds → vs.length = ds.length
  | _, _, .nil => rfl
  | _, _, .cons _ r => congrArg (· + 1) r.length
theorem Dts.get : ∀ {vs : List V} {ds : List D} {i : Nat} {d : D}, Dts K mg F vs ds → ds[i]? = some d → ∃ v, vs[i]? = some v ∧ Dt K mg F v d
  | _, _, _, _, .nil, e => by simp at e
  | _, _, 0, _, .cons r _, e => by simp at e; subst e; exact ⟨_, rfl, r⟩
  | _, _, i + 1, d, .cons _ t, e => by
    obtain ⟨u, h1, h2⟩ := Dts.get (i := i) (d := d) t (by simpa using e)
    exact ⟨u, by simpa using h1, h2⟩
theorem Dts.getV : ∀ {vs : List V} {ds : List D} {i : Nat} {v : V}, Dts K mg F vs ds → vs[i]? = some v → ∃ d, ds[i]? = some d ∧ Dt K mg F v d
  | _, _, _, _, .nil, e => by simp at e
  | _, _, 0, _, .cons r _, e => by simp at e; subst e; exact ⟨_, rfl, r⟩
  | _, _, i + 1, v, .cons _ t, e => by
    obtain ⟨u, h1, h2⟩ := Dts.getV (i := i) (v := v) t (by simpa using e)
    exact ⟨u, by simpa using h1, h2⟩
theorem Dts.append : ∀ {vs ws : List V} {ds es : List D}, Dts K mg F vs ds → Dts K mg F ws es → Dts K mg F (vs ++ ws) (ds ++ es)
  | _, _, _, _, .nil, s => s
  | _, _, _, _, .cons r t, s => .cons r (Dts.append t s)
theorem Dts.take : ∀ {vs : List V} {ds : List D} (n : Nat), Dts K mg F vs ds → Dts K mg F (vs.take n) (ds.take n)
  | _, _, 0, _ => .nil
  | _, _, _ + 1, .nil => .nil
  | _, _, n + 1, .cons r t => .cons r (Dts.take n t)
theorem Dts.drop : ∀ {vs : List V} {ds : List D} (n : Nat), Dts K mg F vs ds → Dts K mg F (vs.drop n) (ds.drop n)
  | _, _, 0, r => r
  | _, _, _ + 1, .nil => .nil
  | _, _, n + 1, .cons _ t => Dts.drop n t
theorem Dts.set {v : V} {d : D} (r : Dt K mg F v d) : ∀ {vs : List V} {ds : List D} (i : Nat), Dts K mg F vs ds → Dts K mg F (vs.set i v) (ds.set i d)
  | _, _, _, .nil => .nil
  | _, _, 0, .cons _ t => .cons r t
  | _, _, i + 1, .cons q t => .cons q (Dts.set r i t)
theorem Dts.revAux : ∀ {vs : List V} {ds : List D} {ws : List V} {es : List D}, Dts K mg F vs ds → Dts K mg F ws es → Dts K mg F (vs.reverseAux ws) (ds.reverseAux es)
  | _, _, _, _, .nil, s => s
  | v :: vs, d :: ds, ws, es, .cons a b, s => Dts.revAux (vs := vs) (ds := ds) (ws := v :: ws) (es := d :: es) b (.cons a s)
theorem Dts.reverse {vs : List V} {ds : List D} (r : Dts K mg F vs ds) : Dts K mg F vs.reverse ds.reverse := Dts.revAux r .nil
theorem Dts.one {v : V} {d : D} (h : Dt K mg F v d) : Dts K mg F [v] [d] := .cons h .nil
theorem Dts.ofInts : ∀ (ns : List Int), Dts K mg F (ns.map V.int) (ns.map D.int)
  | [] => .nil
  | n :: ns => .cons (.int n) (Dts.ofInts ns)
theorem Dks.append : ∀ {vs ws : List (Key × V)} {ds es : List (Key × D)}, Dks K mg F vs ds → Dks K mg F ws es → Dks K mg F (vs ++ ws) (ds ++ es)
  | _, _, _, _, .nil, s => s
  | _, _, _, _, .cons r t, s => .cons r (Dks.append t s)
end

section
variable (K : PySem.W.Frag) (mg : Str → Option Value)
def MOk (F H : Hp) (a : Addr) : MO → Prop
  | .lst xs => ∃ vs, H a = some (.lst vs) ∧ Dts K mg F vs xs
  | .ins c fs => ∃ C dx vfs, mg c = some (.ref C) ∧ H a = some (.ins C dx vfs) ∧ vfs.map (·.1) = fs.map (·.1) ∧ Dts K mg F (vfs.map (·.2)) (fs.map (·.2))
  | .dct kvs => ∃ vs, H a = some (.dK vs) ∧ Dks K mg F vs kvs
  | .dtt kvs => ∃ vs, H a = some (.dT vs) ∧ vs.map (·.1) = kvs.map (·.1) ∧ Dts K mg F (vs.map (·.2)) (kvs.map (·.2))
  | .xd fs => ∃ vfs, H a = some (.xd vfs) ∧ vfs.map (·.1) = fs.map (·.1) ∧ Dts K mg F (vfs.map (·.2)) (fs.map (·.2))
/-- F: what never changes any more; μ: what may change -/
structure Ok (F : Hp) (μ : Sto) (H : Hp) : Prop where
  sub : ∀ a o, F a = some o → H a = some o
  dis : ∀ a m, μ a = some m → F a = none
  sto : ∀ a m, μ a = some m → MOk K mg F H a m
/-- behind a step: what never changes stands, what nobody else knows stands -/
structure Ext (F : Hp) (μ : Sto) (H : Hp) (F' : Hp) (μ' : Sto) (H' : Hp) : Prop where
  mono : ∀ a o, F a = some o → F' a = some o
  keep : ∀ a o, H a = some o → μ a = none → H' a = some o ∧ F' a = F a ∧ μ' a = none
  live : ∀ a, H' a = none → H a = none
def SOk (F : Hp) (μ : Sto) (H : Hp) (v : V) : DS → Prop
  | .val d => Dt K mg F v d
  | .own xs => ∃ a vs, v = .ref a ∧ F a = none ∧ μ a = none ∧ H a = some (.lst vs) ∧ Dts K mg F vs xs
structure Rel (F : Hp) (ρ : DEnv) (μ : Sto) (σ : L2.St) (H : Hp) : Prop where
  ok : Ok K mg F μ H
  len : ρ.length = σ.length
  slot : ∀ (i : Nat) (s : DS), ρ[i]? = some (some s) → ∃ v, σ[i]? = some (some v) ∧ SOk K mg F μ H v s
  apart : ∀ (i j : Nat) (xs ys : List D), ρ[i]? = some (some (DS.own xs)) → ρ[j]? = some (some (DS.own ys)) → σ[i]? = σ[j]? → i = j
end

section
variable {K : PySem.W.Frag} {mg : Str → Option Value} {F F' F'' H H' H'' : Hp} {μ μ' μ'' : Sto} {ρ : DEnv} {σ : L2.St}
theorem Ext.refl : Ext F μ H F μ H := ⟨fun _ _ e => e, fun _ _ e n => ⟨e, rfl, n⟩, fun _ e => e⟩
theorem Ext.trans (a : Ext F μ H F' μ' H') (b : Ext F' μ' H' F'' μ'' H'') : Ext F μ H F'' μ'' H'' :=
  ⟨fun x o e => b.mono x o (a.mono x o e), fun x o e n => by
    obtain ⟨h1, h2, h3⟩ := a.keep x o e n
    obtain ⟨g1, g2, g3⟩ := b.keep x o h1 h3
    exact ⟨g1, g2.trans h2, g3⟩, fun x e => a.live x (b.live x e)⟩
theorem upd_live {H : Hp} {p : Addr} {u : HO} : ∀ a, upd H p u a = none → H a = none := fun a e => by
  by_cases h : a = p
  · subst h; rw [upd_same] at e; cases e
  · rw [upd_ne h] at e; exact e
theorem SOk.ext {v : V} {s : DS} (e : Ext F μ H F' μ' H') (h : SOk K mg F μ H v s) : SOk K mg F' μ' H' v s := by
  cases s with
  | val d => exact Dt.mono e.mono h
  | own xs =>
    obtain ⟨a, vs, rfl, f, m, hh, d⟩ := h
    obtain ⟨h1, h2, h3⟩ := e.keep a _ hh m
    exact ⟨a, vs, rfl, h2.trans f, h3, h1, d.mono e.mono⟩
theorem Rel.ext (r : Rel K mg F ρ μ σ H) (e : Ext F μ H F' μ' H') (o : Ok K mg F' μ' H') : Rel K mg F' ρ μ' σ H' :=
  ⟨o, r.len, fun i s h => by
    obtain ⟨v, h1, h2⟩ := r.slot i s h
    exact ⟨v, h1, h2.ext e⟩, r.apart⟩
theorem Ok.fresh (o : Ok K mg F μ H) {p : Addr} (h : H p = none) : F p = none ∧ μ p = none := by
  constructor
  · cases e : F p with
    | none => rfl
    | some x =>
      have q := o.sub p x e
      rw [h] at q
      cases q
  · cases e : μ p with
    | none => rfl
    | some m =>
      have q := o.sto p m e
      cases m with
      | lst xs => obtain ⟨vs, h1, _⟩ := q; rw [h] at h1; cases h1
      | ins c fs => obtain ⟨_, _, _, _, h1, _⟩ := q; rw [h] at h1; cases h1
      | dct kvs => obtain ⟨vs, h1, _⟩ := q; rw [h] at h1; cases h1
      | dtt kvs => obtain ⟨vs, h1, _⟩ := q; rw [h] at h1; cases h1
      | xd fs => obtain ⟨vs, h1, _⟩ := q; rw [h] at h1; cases h1
theorem MOk.up {a : Addr} {m : MO} (h : MOk K mg F H a m) (hF : ∀ a o, F a = some o → F' a = some o) (hH : H' a = H a) : MOk K mg F' H' a m := by
  cases m with
  | lst xs => obtain ⟨vs, h1, h2⟩ := h; exact ⟨vs, hH.trans h1, h2.mono hF⟩
  | ins c fs => obtain ⟨C, dx, vfs, h0, h1, h2, h3⟩ := h; exact ⟨C, dx, vfs, h0, hH.trans h1, h2, h3.mono hF⟩
  | dct kvs => obtain ⟨vs, h1, h2⟩ := h; exact ⟨vs, hH.trans h1, h2.mono hF⟩
  | dtt kvs => obtain ⟨vs, h1, h2, h3⟩ := h; exact ⟨vs, hH.trans h1, h2, h3.mono hF⟩
  | xd fs => obtain ⟨vs, h1, h2, h3⟩ := h; exact ⟨vs, hH.trans h1, h2, h3.mono hF⟩
/-- a new object that never changes -/
theorem Ok.lay (o : Ok K mg F μ H) {p : Addr} (h : H p = none) (u : HO) : Ok K mg (upd F p u) μ (upd H p u) ∧ Ext F μ H (upd F p u) μ (upd H p u) := by
  obtain ⟨hf, hm⟩ := o.fresh h
  have mono : ∀ a x, F a = some x → upd F p u a = some x := fun a x e => by rw [upd_ne (ne_of_none e hf)]; exact e
  refine ⟨⟨fun a x e => ?_, fun a m e => ?_, fun a m e => ?_⟩, ⟨mono, fun a x e n => ?_, upd_live⟩⟩
  · by_cases ha : a = p
    · subst ha; rw [upd_same] at e ⊢; exact e
    · rw [upd_ne ha] at e ⊢; exact o.sub a x e
  · by_cases ha : a = p
    · subst ha; rw [hm] at e; cases e
    · rw [upd_ne ha]; exact o.dis a m e
  · have ha : a ≠ p := fun q => by subst q; rw [hm] at e; cases e
    exact (o.sto a m e).up mono (upd_ne ha)
  · have ha := ne_of_none e h
    rw [upd_ne ha, upd_ne ha]
    exact ⟨e, rfl, n⟩
/-- an object that changes is changed -/
theorem Ok.write (o : Ok K mg F μ H) {p : Addr} {m0 : MO} (h : μ p = some m0) (u : HO) (m : MO) (hm : MOk K mg F (upd H p u) p m) : Ok K mg F (sset μ p m) (upd H p u) ∧ Ext F μ H F (sset μ p m) (upd H p u) := by
  have hf := o.dis p m0 h
  refine ⟨⟨fun a x e => ?_, fun a m' e => ?_, fun a m' e => ?_⟩, ⟨fun _ _ e => e, fun a x e n => ?_, upd_live⟩⟩
  · rw [upd_ne (ne_of_none e hf)]; exact o.sub a x e
  · by_cases ha : a = p
    · subst ha; exact hf
    · rw [sset_ne ha] at e; exact o.dis a m' e
  · by_cases ha : a = p
    · subst ha; rw [sset_same] at e; cases e; exact hm
    · rw [sset_ne ha] at e; exact (o.sto a m' e).up (fun _ _ e => e) (upd_ne ha)
  · have ha : a ≠ p := fun q => by subst q; rw [n] at h; cases h
    rw [upd_ne ha, sset_ne ha]
    exact ⟨e, rfl, n⟩
/-- a new object that nobody knows: the heap alone grows -/
theorem Ok.layN (o : Ok K mg F μ H) {p : Addr} (h : H p = none) (u : HO) : Ok K mg F μ (upd H p u) ∧ Ext F μ H F μ (upd H p u) := by
  obtain ⟨hf, hn⟩ := o.fresh h
  refine ⟨⟨fun a x e => ?_, o.dis, fun a m' e => ?_⟩, ⟨fun _ _ e => e, fun a x e n => ?_, upd_live⟩⟩
  · rw [upd_ne (ne_of_none e hf)]; exact o.sub a x e
  · have ha : a ≠ p := fun q => by subst q; rw [hn] at e; cases e
    exact (o.sto a m' e).up (fun _ _ e => e) (upd_ne ha)
  · rw [upd_ne (ne_of_none e h)]
    exact ⟨e, rfl, n⟩
/-- an object that nobody else knows is changed -/
theorem Ok.writeN (o : Ok K mg F μ H) {p : Addr} (hf : F p = none) (hn : μ p = none) (u : HO) : Ok K mg F μ (upd H p u) := by
  refine ⟨fun a x e => ?_, o.dis, fun a m' e => ?_⟩
  · rw [upd_ne (ne_of_none e hf)]; exact o.sub a x e
  · have ha : a ≠ p := fun q => by subst q; rw [hn] at e; cases e
    exact (o.sto a m' e).up (fun _ _ e => e) (upd_ne ha)
/-- .. and from then on it never changes -/
theorem Ok.freeze (o : Ok K mg F μ H) {p : Addr} {u : HO} (hf : F p = none) (hn : μ p = none) (hh : H p = some u) : Ok K mg (upd F p u) μ H := by
  have mono : ∀ a x, F a = some x → upd F p u a = some x := fun a x e => by rw [upd_ne (ne_of_none e hf)]; exact e
  refine ⟨fun a x e => ?_, fun a m e => ?_, fun a m e => ?_⟩
  · by_cases ha : a = p
    · subst ha; rw [upd_same] at e; rw [hh]; exact e
    · rw [upd_ne ha] at e; exact o.sub a x e
  · have ha : a ≠ p := fun q => by subst q; rw [hn] at e; cases e
    rw [upd_ne ha]; exact o.dis a m e
  · exact (o.sto a m e).up mono rfl
end

abbrev DK := D → Sto → Prop
/-- an expression's reading over data -/
abbrev TED := DEnv → Sto → DK → Prop
abbrev TTD := DEnv → Sto → (Bool → Sto → Prop) → Prop
abbrev TAD := DEnv → Sto → (List D → Sto → Prop) → Prop
structure DEnds where
  nx : DEnv → Sto → Prop
  rt : DK
  bk : DEnv → Sto → Prop := fun _ _ => False
  ct : DEnv → Sto → Prop := fun _ _ => False
abbrev TSD := DEnds → DEnv → Sto → Prop
section
variable (K : PySem.W.Frag) (mg : Str → Option Value)
def liftE (d : TED) : TE := fun σ H Q => ∃ F ρ μ Qd, Rel K mg F ρ μ σ H ∧ d ρ μ Qd ∧ ∀ v F' μ' H' dv, Ext F μ H F' μ' H' → Ok K mg F' μ' H' → Dt K mg F' v dv → Qd dv μ' → Q v H'
/-- a value that is only looked at: as a value, or a list of the frame's own -/
def Wk (F : Hp) (μ : Sto) (H : Hp) (v : V) (d : D) : Prop := Dt K mg F v d ∨ ∃ a vs xs, v = .ref a ∧ d = .lst xs ∧ F a = none ∧ μ a = none ∧ H a = some (.lst vs) ∧ Dts K mg F vs xs
def liftW (d : TED) : TE := fun σ H Q => ∃ F ρ μ Qd, Rel K mg F ρ μ σ H ∧ d ρ μ Qd ∧ ∀ v F' μ' H' dv, Ext F μ H F' μ' H' → Ok K mg F' μ' H' → Wk K mg F' μ' H' v dv → Qd dv μ' → Q v H'
/-- a new list that nobody knows -/
abbrev TFD := DEnv → Sto → (List D → Sto → Prop) → Prop
def liftF (d : TFD) : TE := fun σ H Q => ∃ F ρ μ Qd, Rel K mg F ρ μ σ H ∧ d ρ μ Qd ∧ ∀ p vs F' μ' H' ds, Ext F μ H F' μ' H' → Ok K mg F' μ' H' → H p = none → F' p = none → μ' p = none → H' p = some (.lst vs) → Dts K mg F' vs ds → Qd ds μ' → Q (.ref p) H'
def liftT (d : TTD) : TT := fun σ H Q => ∃ F ρ μ Qd, Rel K mg F ρ μ σ H ∧ d ρ μ Qd ∧ ∀ b F' μ' H', Ext F μ H F' μ' H' → Ok K mg F' μ' H' → Qd b μ' → Q b H'
def liftA (d : TAD) : TA := fun σ H Q => ∃ F ρ μ Qd, Rel K mg F ρ μ σ H ∧ d ρ μ Qd ∧ ∀ vs F' μ' H' ds, Ext F μ H F' μ' H' → Ok K mg F' μ' H' → Dts K mg F' vs ds → Qd ds μ' → Q vs H'
/-- .. whose values are only looked at -/
inductive Wks (F : Hp) (μ : Sto) (H : Hp) : List V → List D → Prop
  | nil : Wks F μ H [] []
  | cons {v : V} {vs : List V} {d : D} {ds : List D} : Wk K mg F μ H v d → Wks F μ H vs ds → Wks F μ H (v :: vs) (d :: ds)
def liftAW (d : TAD) : TA := fun σ H Q => ∃ F ρ μ Qd, Rel K mg F ρ μ σ H ∧ d ρ μ Qd ∧ ∀ vs F' μ' H' ds, Ext F μ H F' μ' H' → Ok K mg F' μ' H' → Wks K mg F' μ' H' vs ds → Qd ds μ' → Q vs H'
def FLe (F F' : Hp) : Prop := ∀ a o, F a = some o → F' a = some o
/-- the state at the def's entry -/
structure Bs where
  F : Hp
  μ : Sto
  H : Hp
/-- .. and a state within the def -/
structure RelB (B : Bs) (F : Hp) (ρ : DEnv) (μ : Sto) (σ : L2.St) (H : Hp) : Prop where
  rel : Rel K mg F ρ μ σ H
  ext : Ext B.F B.μ B.H F μ H
  new : ∀ (i : Nat) (xs : List D) (a : Addr), ρ[i]? = some (some (DS.own xs)) → σ[i]? = some (some (.ref a)) → B.H a = none
def liftS (B : Bs) (d : TSD) : TS := fun D σ H => ∃ F ρ μ Dd, RelB K mg B F ρ μ σ H ∧ d Dd ρ μ ∧
  (∀ F' ρ' μ' σ' H', FLe F F' → RelB K mg B F' ρ' μ' σ' H' → Dd.nx ρ' μ' → D.nx σ' H') ∧
  (∀ F' ρ' μ' σ' H', FLe F F' → RelB K mg B F' ρ' μ' σ' H' → Dd.bk ρ' μ' → D.bk σ' H') ∧
  (∀ F' ρ' μ' σ' H', FLe F F' → RelB K mg B F' ρ' μ' σ' H' → Dd.ct ρ' μ' → D.ct σ' H') ∧
  (∀ v F' μ' H' dv, Ext B.F B.μ B.H F' μ' H' → Ok K mg F' μ' H' → Dt K mg F' v dv → Dd.rt dv μ' → D.rt v H')
end
theorem FLe.rfl' {F : Hp} : FLe F F := fun _ _ e => e
theorem FLe.trans {F F' F'' : Hp} (h : FLe F F') (g : FLe F' F'') : FLe F F'' := fun a o e => g a o (h a o e)
theorem _root_.L2.PE.weaken {X : Cx} {e : Expr} {t t' : TE} (h : PE X e t) (w : ∀ σ H Q, t' σ H Q → t σ H Q) : PE X e t' := ⟨fun pins s σ H Q I q => h.run pins s σ H Q I (w σ H Q q)⟩
theorem _root_.L2.PT.weaken {X : Cx} {e : Expr} {t t' : TT} (h : PT X e t) (w : ∀ σ H Q, t' σ H Q → t σ H Q) : PT X e t' := ⟨fun pins s σ H Q I q => h.run pins s σ H Q I (w σ H Q q)⟩
theorem _root_.L2.PW.weaken {X : Cx} {e : Expr} {t t' : TT} (h : PW X e t) (w : ∀ σ H Q, t' σ H Q → t σ H Q) : PW X e t' := ⟨fun wh pins s σ H Q I q => h.run wh pins s σ H Q I (w σ H Q q)⟩
theorem _root_.L2.PA.weaken {X : Cx} {e : List Expr} {t t' : TA} (h : PA X e t) (w : ∀ σ H Q, t' σ H Q → t σ H Q) : PA X e t' := ⟨fun pos pins s σ H Q I q => h.run pos pins s σ H Q I (w σ H Q q)⟩
theorem _root_.L2.PS.weaken {X : Cx} {e : Stmt} {t t' : TS} (h : PS X e t) (w : ∀ D σ H, t' D σ H → t D σ H) : PS X e t' := ⟨fun pins s σ H D I q => h.run pins s σ H D I (w D σ H q)⟩
theorem _root_.L2.PSs.weaken {X : Cx} {e : List Stmt} {t t' : TS} (h : PSs X e t) (w : ∀ D σ H, t' D σ H → t D σ H) : PSs X e t' := ⟨fun pins s σ H D I q => h.run pins s σ H D I (w D σ H q)⟩

abbrev DE (X : Cx) (e : Expr) (d : TED) : Prop := PE X e (liftE X.K X.mg d)
abbrev DW (X : Cx) (e : Expr) (d : TED) : Prop := PE X e (liftW X.K X.mg d)
abbrev DF (X : Cx) (e : Expr) (d : TFD) : Prop := PE X e (liftF X.K X.mg d)
abbrev DT (X : Cx) (e : Expr) (d : TTD) : Prop := PT X e (liftT X.K X.mg d)
abbrev DPW (X : Cx) (e : Expr) (d : TTD) : Prop := PW X e (liftT X.K X.mg d)
abbrev DA (X : Cx) (es : List Expr) (d : TAD) : Prop := PA X es (liftA X.K X.mg d)
abbrev DAW (X : Cx) (es : List Expr) (d : TAD) : Prop := PA X es (liftAW X.K X.mg d)
abbrev DSt (X : Cx) (B : Bs) (st : Stmt) (d : TSD) : Prop := PS X st (liftS X.K X.mg B d)
abbrev DSs (X : Cx) (B : Bs) (st : List Stmt) (d : TSD) : Prop := PSs X st (liftS X.K X.mg B d)
end DL

namespace DL
open PySem PySem.Spec PyProof.Rows L2

section
variable {K : PySem.W.Frag} {mg : Str → Option Value} {F F' H H' : Hp} {μ μ' : Sto} {x : V}
theorem Wk.ext {d : D} (e : Ext F μ H F' μ' H') (h : Wk K mg F μ H x d) : Wk K mg F' μ' H' x d := by
  rcases h with h | ⟨a, vs, xs, rfl, rfl, f, m, hh, r⟩
  · exact .inl (h.mono e.mono)
  · obtain ⟨h1, h2, h3⟩ := e.keep a _ hh m
    exact .inr ⟨a, vs, xs, rfl, rfl, h2.trans f, h3, h1, r.mono e.mono⟩
theorem Wk.int {i : Int} (h : Wk K mg F μ H x (.int i)) : x = .int i := by
  rcases h with h | ⟨_, _, _, _, e, _⟩
  · cases h; rfl
  · cases e
theorem Wk.bl {i : Bool} (h : Wk K mg F μ H x (.bl i)) : x = .bl i := by
  rcases h with h | ⟨_, _, _, _, e, _⟩
  · cases h; rfl
  · cases e
theorem Wk.non (h : Wk K mg F μ H x .non) : x = .non := by
  rcases h with h | ⟨_, _, _, _, e, _⟩
  · cases h; rfl
  · cases e
theorem Wk.str {s : List Nat} (h : Wk K mg F μ H x (.str s)) : x = .str (S s) := by
  rcases h with h | ⟨_, _, _, _, e, _⟩
  · cases h; rfl
  · cases e
theorem Wk.ref {a : Addr} (h : Wk K mg F μ H x (.ref a)) : x = .ref a := by
  rcases h with h | ⟨_, _, _, _, e, _⟩
  · cases h; rfl
  · cases e
theorem Wk.ty {n : String} (h : Wk K mg F μ H x (.ty n)) : x = .ty n := by
  rcases h with h | ⟨_, _, _, _, e, _⟩
  · cases h; rfl
  · cases e
theorem SqT.sub (o : Ok K mg F μ H) {a : Addr} {vs : List V} (h : SqT K F a vs) : SqT K H a vs := SqT.mono' o.sub h
theorem Wk.tup (o : Ok K mg F μ H) {ds : List D} (h : Wk K mg F μ H x (.tup ds)) : ∃ a vs, x = .ref a ∧ SqT K H a vs ∧ PlT F a vs ∧ Dts K mg F vs ds := by
  rcases h with h | ⟨_, _, _, _, e, _⟩
  · cases h with
    | tup q r => exact ⟨_, _, rfl, SqT.sub o q.sq, q, r⟩
  · cases e
theorem Wk.lst (o : Ok K mg F μ H) {ds : List D} (h : Wk K mg F μ H x (.lst ds)) : ∃ a vs, x = .ref a ∧ H a = some (.lst vs) ∧ Dts K mg F vs ds := by
  rcases h with h | ⟨a, vs, xs, rfl, e, f, m, hh, r⟩
  · cases h with
    | lst q r => exact ⟨_, _, rfl, o.sub _ _ q, r⟩
  · cases e
    exact ⟨a, vs, rfl, hh, r⟩
theorem Wk.scr (o : Ok K mg F μ H) {ns : List Int} (h : Wk K mg F μ H x (.scr ns)) : ∃ a, x = .ref a ∧ SqL K H a (ns.map V.int) := by
  rcases h with h | ⟨a, vs, xs, rfl, e, f, m, hh, r⟩
  · cases h with
    | scr q => exact ⟨_, rfl, SqL.mono' o.sub q⟩
  · cases e
theorem Wk.dct (o : Ok K mg F μ H) {ds : List (Key × D)} (h : Wk K mg F μ H x (.dct ds)) : ∃ a vs, x = .ref a ∧ H a = some (.dK vs) ∧ Dks K mg F vs ds := by
  rcases h with h | ⟨a, vs, xs, rfl, e, f, m, hh, r⟩
  · cases h with
    | dct q r => exact ⟨_, _, rfl, o.sub _ _ q, r⟩
  · cases e
/-- a new tuple -/
theorem newTup (o : Ok K mg F μ H) {vs : List V} {ds : List D} (r : Dts K mg F vs ds) {p : Addr} {ob : Obj} (hp : H p = none) (ho : ob.dict = none) :
    Ext F μ H (upd F p (.frz ob (.tup vs))) μ (upd H p (.frz ob (.tup vs))) ∧ Ok K mg (upd F p (.frz ob (.tup vs))) μ (upd H p (.frz ob (.tup vs))) ∧ Dt K mg (upd F p (.frz ob (.tup vs))) (.ref p) (.tup ds) := by
  obtain ⟨h1, h2⟩ := o.lay hp (.frz ob (.tup vs))
  exact ⟨h2, h1, .tup ⟨ob, ho, upd_same⟩ (r.mono h2.mono)⟩
/-- a new list that never changes -/
theorem newLst (o : Ok K mg F μ H) {vs : List V} {ds : List D} (r : Dts K mg F vs ds) {p : Addr} (hp : H p = none) : Ext F μ H (upd F p (.lst vs)) μ (upd H p (.lst vs)) ∧ Ok K mg (upd F p (.lst vs)) μ (upd H p (.lst vs)) ∧ Dt K mg (upd F p (.lst vs)) (.ref p) (.lst ds) := by
  obtain ⟨h1, h2⟩ := o.lay hp (.lst vs)
  exact ⟨h2, h1, .lst upd_same (r.mono h2.mono)⟩
end

mutual
def D.py : D → PyData
  | .non => .none | .bl b => .bool b | .int i => .int i | .str x => .str (S x)
  | .tup xs => .tuple (D.pys xs) | .lst xs => .list (D.pys xs) | .scr ns => .list (ns.map .int)
  | _ => .none
def D.pys : List D → List PyData
  | [] => []
  | x :: xs => x.py :: D.pys xs
end
mutual
/-- data without dicts, objects -/
def D.flat : D → Bool
  | .non => true | .bl _ => true | .int _ => true | .str _ => true
  | .tup xs => D.flats xs | .lst xs => D.flats xs
  | _ => false
def D.flats : List D → Bool
  | [] => true
  | x :: xs => x.flat && D.flats xs
end
section
variable {K : PySem.W.Frag} {mg : Str → Option Value} {F H : Hp} {μ : Sto}
mutual
theorem Dt.dp (hF : ∀ a o, F a = some o → H a = some o) : ∀ {v : V} {d : D}, Dt K mg F v d → d.flat = true → Dp K H v d.py
  | _, _, .non, _ => .non
  | _, _, .bl b, _ => .bl b
  | _, _, .int i, _ => .int i
  | _, _, .str x, _ => .str (S x)
  | _, _, .tup h r, q => .tup (SqT.mono' hF h.sq) (Dts.dp hF r q)
  | _, _, .lst h r, q => .lst (.inl (.inl (hF _ _ h))) (Dts.dp hF r q)
  | _, _, .dct _ _, q => nomatch q
  | _, _, .scr _, q => nomatch q
  | _, _, .ref _, q => nomatch q
  | _, _, .ty _, q => nomatch q
  | _, _, .gl _, q => nomatch q
  | _, _, .pr _ _ _, q => nomatch q
  | _, _, .obj _ _ _ _, q => nomatch q
  | _, _, .exn0 _ _ _ _, q => nomatch q
  | _, _, .exn1 _ _ _ _ _ _ _, q => nomatch q
theorem Dts.dp (hF : ∀ a o, F a = some o → H a = some o) : ∀ {vs : List V} {ds : List D}, Dts K mg F vs ds → D.flats ds = true → DpAll K H vs (D.pys ds)
  | _, _, .nil, _ => .nil
  | _, _, .cons h r, q => .cons (Dt.dp hF h (Bool.and_eq_true_iff.mp q).1) (Dts.dp hF r (Bool.and_eq_true_iff.mp q).2)
end
theorem Wk.dp (o : Ok K mg F μ H) {v : V} {d : D} (h : Wk K mg F μ H v d) (q : d.flat = true) : Dp K H v d.py := by
  rcases h with h | ⟨a, vs, xs, rfl, rfl, f, m, hh, r⟩
  · exact Dt.dp o.sub h q
  · exact .lst (.inl (.inl hh)) (Dts.dp o.sub r q)
end

abbrev RD2 := D → D → Sto → DK → Prop
def OpS (K : PySem.W.Frag) (mg : Str → Option Value) (r : R2) (rd : RD2) : Prop :=
  ∀ (F : Hp) (μ : Sto) (H : Hp) (x y : V) (dx dy : D) (Qd : DK) (Q : VK), Ok K mg F μ H → Wk K mg F μ H x dx → Wk K mg F μ H y dy → rd dx dy μ Qd →
    (∀ v F' μ' H' dv, Ext F μ H F' μ' H' → Ok K mg F' μ' H' → Dt K mg F' v dv → Qd dv μ' → Q v H') → r x y H Q
@[simp] def dOp (rd : RD2) (a b : TED) : TED := fun ρ μ Q => a ρ μ fun x μ1 => b ρ μ1 fun y μ2 => rd x y μ2 Q
section
variable {X : Cx} {a b c e : Expr} {da db dc : TED} {pos : Pos} {K : PySem.W.Frag} {mg : Str → Option Value}
theorem lift_op {r : R2} {rd : RD2} (hs : OpS K mg r rd) {σ : L2.St} {H : Hp} {Q : VK} (h : liftE K mg (dOp rd da db) σ H Q) : tOp r (liftW K mg da) (liftW K mg db) σ H Q := by
  obtain ⟨F, ρ, μ, Qd, R, hd, k⟩ := h
  refine ⟨F, ρ, μ, _, R, hd, fun v F1 μ1 H1 dv e1 o1 w1 q1 => ?_⟩
  refine ⟨F1, ρ, μ1, _, R.ext e1 o1, q1, fun u F2 μ2 H2 du e2 o2 w2 q2 => ?_⟩
  exact hs F2 μ2 H2 v u dv du _ _ o2 (w1.ext e2) w2 q2 fun z F3 μ3 H3 dz e3 o3 w3 q3 => k z F3 μ3 H3 dz (e1.trans (e2.trans e3)) o3 w3 q3
theorem lift_W {d : TED} {σ : L2.St} {H : Hp} {Q : VK} (h : liftW K mg d σ H Q) : liftE K mg d σ H Q := by
  obtain ⟨F, ρ, μ, Qd, R, hd, k⟩ := h
  exact ⟨F, ρ, μ, Qd, R, hd, fun v F' μ' H' dv e o w q => k v F' μ' H' dv e o (.inl w) q⟩
theorem dw {d : TED} (h : DE X e d) : DW X e d := h.weaken fun _ _ _ q => lift_W q
theorem de_op {op : Operator} {r : R2} {rd : RD2} (ho : OpR X (binaryOp op) r) (hs : OpS X.K X.mg r rd) (ha : DW X a da) (hb : DW X b db) : DE X (.BinOp a op b pos) (dOp rd da db) :=
  (pe_op ho ha hb).weaken fun _ _ _ q => lift_op hs q
theorem de_cmp {op : CmpOp} {r : R2} {rd : RD2} (ho : OpR X (compareOp op) r) (hs : OpS X.K X.mg r rd) (ha : DW X a da) (hb : DW X b db) (hm : behindInMarks op b = false) : DE X (.Compare a [op] [b] pos) (dOp rd da db) :=
  (pe_cmpR ho ha hb hm).weaken fun _ _ _ q => lift_op hs q
/-- a test that is a value -/
def blK : D → (Bool → Prop) → Prop
  | .bl b, K => K b
  | _, _ => False
@[simp] theorem blK_1 : blK  (.bl b0) K0 = (K0 b0) := rfl
theorem blK_iff {x : D} {K : Bool → Prop} (h : blK x K) : ∃ b, x = .bl b ∧ K b := by
  cases x <;> first | exact h.elim | exact ⟨_, rfl, h⟩
@[simp] def dB (d : TED) : TTD := fun ρ μ Q => d ρ μ fun x μ1 => blK x fun b => Q b μ1
theorem dt_cmp {op : CmpOp} {r : R2} {rd : RD2} (ho : OpR X (compareOp op) r) (hs : OpS X.K X.mg r rd) (ha : DW X a da) (hb : DW X b db) (hm : behindInMarks op b = false) : DT X (.Compare a [op] [b] pos) (dB (dOp rd da db)) :=
  (pt_cmpR ho ha hb hm).weaken fun σ H Q q => by
    obtain ⟨F, ρ, μ, Qd, R, hd, k⟩ := q
    refine lift_op hs ⟨F, ρ, μ, _, R, hd, fun v F' μ' H' dv e o w q => ?_⟩
    obtain ⟨b, rfl, q⟩ := blK_iff q
    cases w
    exact ⟨b, rfl, k b F' μ' H' e o q⟩
theorem dt_val (h : DE X e da) (he : ∀ whole, isTrue e X.env whole = (do let v ← whole; standAt e.pos; holding [v] (truthy v)) := by intro _; rfl) : DT X e (dB da) :=
  (pt_val h he).weaken fun σ H Q q => by
    obtain ⟨F, ρ, μ, Qd, R, hd, k⟩ := q
    refine ⟨F, ρ, μ, _, R, hd, fun v F' μ' H' dv e o w q => ?_⟩
    obtain ⟨b, rfl, q⟩ := blK_iff q
    cases w
    exact ⟨b, rfl, k b F' μ' H' e o q⟩

@[simp] def dVar (i : Nat) : TED := fun ρ μ Q => ∃ d, ρ[i]? = some (some (.val d)) ∧ Q d μ
/-- .. only looked at -/
@[simp] def dLook (i : Nat) : TED := fun ρ μ Q => match ρ[i]? with | some (some (.val d)) => Q d μ | some (some (.own xs)) => Q (.lst xs) μ | _ => False
@[simp] def dC (d : D) : TED := fun _ μ Q => Q d μ
theorem de_var {i : Nat} {x : Str} (h : PE X (.Name x pos) (tVar i)) : DE X (.Name x pos) (dVar i) := h.weaken fun σ H Q q => by
  obtain ⟨F, ρ, μ, Qd, R, ⟨d, hd, q⟩, k⟩ := q
  obtain ⟨v, h1, h2⟩ := R.slot i _ hd
  exact ⟨v, h1, k v F μ H d .refl R.ok h2 q⟩
theorem dw_var {i : Nat} {x : Str} (h : PE X (.Name x pos) (tVar i)) : DW X (.Name x pos) (dLook i) := h.weaken fun σ H Q q => by
  obtain ⟨F, ρ, μ, Qd, R, q, k⟩ := q
  cases e : ρ[i]? with
  | none => simp [dLook, e] at q
  | some o =>
    cases o with
    | none => simp [dLook, e] at q
    | some s =>
      obtain ⟨v, h1, h2⟩ := R.slot i _ e
      cases s with
      | val d => exact ⟨v, h1, k v F μ H d .refl R.ok (.inl h2) (by simpa [dLook, e] using q)⟩
      | own xs =>
        obtain ⟨a, vs, rfl, f, m, hh, r⟩ := h2
        exact ⟨_, h1, k _ F μ H (.lst xs) .refl R.ok (.inr ⟨a, vs, xs, rfl, rfl, f, m, hh, r⟩) (by simpa [dLook, e] using q)⟩
theorem de_c {v : V} {d : D} (h : PE X e (tC v)) (hd : ∀ F, Dt X.K X.mg F v d) : DE X e (dC d) := h.weaken fun σ H Q q => by
  obtain ⟨F, ρ, μ, Qd, R, q, k⟩ := q
  exact k v F μ H d .refl R.ok (hd F) q
theorem de_int {i j pos} : DE X (.Constant (.int i) j pos) (dC (.int i)) := de_c pe_int fun _ => .int i
theorem de_bl {b j pos} : DE X (.Constant (.bool b) j pos) (dC (.bl b)) := de_c pe_bl fun _ => .bl b
theorem de_non {j pos} : DE X (.Constant .none j pos) (dC .non) := de_c pe_non fun _ => .non
theorem de_str {x : Str} {j pos} (s : List Nat) (h : x = S s := by decide +kernel) : DE X (.Constant (.str x) j pos) (dC (.str s)) := de_c pe_str fun _ => by subst h; exact .str s
theorem de_glob {x : Str} {v : V} {u : Value} {d : D} (hg : Gl X x) (hm : X.mg x = some u) (r : RelV v u) (hd : ∀ F, Dt X.K X.mg F v d) (hdb : (x == ("__debug__" : Str)) = false := by decide) : DE X (.Name x pos) (dC d) := de_c (pe_glob hg hm r hdb) hd

@[simp] def dNot (t : TTD) : TTD := fun ρ μ Q => t ρ μ fun b μ1 => Q (!b) μ1
@[simp] def dAnd (t u : TTD) : TTD := fun ρ μ Q => t ρ μ fun b μ1 => if b = true then u ρ μ1 Q else Q false μ1
@[simp] def dOr (t u : TTD) : TTD := fun ρ μ Q => t ρ μ fun b μ1 => if b = true then Q true μ1 else u ρ μ1 Q
@[simp] def dIf (t : TTD) (a b : TED) : TED := fun ρ μ Q => t ρ μ fun c μ1 => if c = true then a ρ μ1 Q else b ρ μ1 Q
variable {ta tb : TTD} {rest : List Expr}
theorem dt_not (h : DT X a ta) : DT X (.UnaryOp .Not a pos) (dNot ta) := (pt_not h).weaken fun σ H Q q => by
  obtain ⟨F, ρ, μ, Qd, R, hd, k⟩ := q
  exact ⟨F, ρ, μ, _, R, hd, fun b F' μ' H' e o q => k (!b) F' μ' H' e o q⟩
theorem dpw_or1 (ha : DT X a ta) : DPW X (.BoolOp .Or [a] pos) ta := pw_or1 ha
theorem dpw_or (ha : DT X a ta) (hb : DPW X (.BoolOp .Or (b :: rest) pos) tb) : DPW X (.BoolOp .Or (a :: b :: rest) pos) (dOr ta tb) := (pw_or ha hb).weaken fun σ H Q q => by
  obtain ⟨F, ρ, μ, Qd, R, hd, k⟩ := q
  refine ⟨F, ρ, μ, _, R, hd, fun b F1 μ1 H1 e1 o1 q1 => ?_⟩
  cases b with
  | false => exact ⟨F1, ρ, μ1, _, R.ext e1 o1, q1, fun c F2 μ2 H2 e2 o2 q2 => k c F2 μ2 H2 (e1.trans e2) o2 q2⟩
  | true => exact k true F1 μ1 H1 e1 o1 q1
theorem DPW.dt (h : DPW X e ta) : DT X e ta := PW.pt h
/-- .. as values, all but the last True or False -/
@[simp] def dAndV (a b : TED) : TED := fun ρ μ Q => a ρ μ fun x μ1 => blK x fun c => if c = true then b ρ μ1 Q else Q (.bl false) μ1
@[simp] def dOrV (a b : TED) : TED := fun ρ μ Q => a ρ μ fun x μ1 => blK x fun c => if c = true then Q (.bl true) μ1 else b ρ μ1 Q
@[simp] def dNotV (a : TED) : TED := fun ρ μ Q => a ρ μ fun x μ1 => blK x fun c => Q (.bl (!c)) μ1
@[simp] def dNeg (a : TED) : TED := fun ρ μ Q => a ρ μ fun x μ1 => ∃ i, x = .int i ∧ Q (.int (-i)) μ1
theorem de_neg (ha : DE X a da) : DE X (.UnaryOp .USub a pos) (dNeg da) := (pe_un un_neg ha).weaken fun σ H Q q => by
  obtain ⟨F, ρ, μ, Qd, R, hd, k⟩ := q
  refine ⟨F, ρ, μ, _, R, hd, fun v F1 μ1 H1 dv e1 o1 w1 q1 => ?_⟩
  obtain ⟨i, rfl, q1⟩ := q1
  cases w1
  exact ⟨i, rfl, k _ F1 μ1 H1 _ e1 o1 (.int _) q1⟩

@[simp] def dChain (r r' : RD2) (a b c : TED) : TED := fun ρ μ Q => a ρ μ fun x μ1 => b ρ μ1 fun y μ2 => r x y μ2 fun z μ3 => blK z fun k => (if k = true then c ρ μ3 fun w μ4 => r' y w μ4 Q else Q (.bl false) μ3)
end
end DL

namespace DL
open PySem PySem.Spec PyProof.Rows L2

theorem S_len (l : List Nat) : (S l).length = l.length := by show l.toArray.size = l.length; simp
theorem S_app (l r : List Nat) : S l ++ S r = S (l ++ r) := by
  show (⟨l.toArray ++ r.toArray⟩ : Str) = ⟨(l ++ r).toArray⟩
  simp
theorem S_list (l : List Nat) : (S l).cps.toList = l := by simp
theorem S_inj {l r : List Nat} : S l = S r ↔ l = r := by
  constructor
  · intro h
    have := congrArg (fun z : Str => z.cps.toList) h
    simpa using this
  · intro h; rw [h]
theorem S_of (z : Str) : S z.cps.toList = z := by
  show (⟨z.cps.toList.toArray⟩ : Str) = z
  simp

/-- two whole numbers under a condition -/
def rdI (C : Int → Int → Prop) (g : Int → Int → D) : RD2
  | .int i, .int j, μ, Q => C i j ∧ Q (g i j) μ
  | _, _, _, _ => False
@[simp] theorem rdI_1 (C : Int → Int → Prop) (g : Int → Int → D) {i j : Int} {μ : Sto} {Q : DK} : rdI C g (.int i) (.int j) μ Q = (C i j ∧ Q (g i j) μ) := rfl
def mulOk (i j : Int) : Prop := (-18446744073709551616 < i ∧ i < 18446744073709551616) ∨ (-18446744073709551616 < j ∧ j < 18446744073709551616) ∨ i.natAbs.log2 + j.natAbs.log2 < 1000000
def powOk (i j : Int) : Prop := 0 ≤ j ∧ j ≤ 1000000 ∧ i.natAbs < 18446744073709551616
def divOk (j : Int) : Prop := 0 < j ∧ (j < 1073741824 ∨ j.natAbs.log2 < 9000)
@[simp] abbrev SZ : Nat := 16777216
def repl {α : Type} (n : Nat) (l : List α) : List α := (List.replicate n l).flatten
def rdAdd : RD2
  | .int i, .int j, μ, Q => Q (.int (i + j)) μ
  | .str s, .str t, μ, Q => s.length + t.length ≤ SZ ∧ Q (.str (s ++ t)) μ
  | .tup s, .tup t, μ, Q => s.length + t.length ≤ SZ ∧ Q (.tup (s ++ t)) μ
  | .lst s, .lst t, μ, Q => s.length + t.length ≤ SZ ∧ Q (.lst (s ++ t)) μ
  | .int i, .bl k, μ, Q => Q (.int (i + b2i k)) μ
  | .ref a, .lst t, μ, Q => ∃ s, μ a = some (.lst s) ∧ s.length + t.length ≤ SZ ∧ Q (.lst (s ++ t)) μ
  | _, _, _, _ => False
@[simp] theorem rdAdd_1 : rdAdd  (.int i0) (.int j0) μ0 Q0 = (Q0 (.int (i0 + j0)) μ0) := rfl
@[simp] theorem rdAdd_2 : rdAdd  (.str s0) (.str t0) μ0 Q0 = (s0.length + t0.length ≤ SZ ∧ Q0 (.str (s0 ++ t0)) μ0) := rfl
@[simp] theorem rdAdd_3 : rdAdd  (.tup s0) (.tup t0) μ0 Q0 = (s0.length + t0.length ≤ SZ ∧ Q0 (.tup (s0 ++ t0)) μ0) := rfl
@[simp] theorem rdAdd_4 : rdAdd  (.lst s0) (.lst t0) μ0 Q0 = (s0.length + t0.length ≤ SZ ∧ Q0 (.lst (s0 ++ t0)) μ0) := rfl
@[simp] theorem rdAdd_5 : rdAdd  (.int i0) (.bl k0) μ0 Q0 = (Q0 (.int (i0 + b2i k0)) μ0) := rfl
@[simp] theorem rdAdd_6 : rdAdd  (.ref a0) (.lst t0) μ0 Q0 = (∃ s, μ0 a0 = some (.lst s) ∧ s.length + t0.length ≤ SZ ∧ Q0 (.lst (s ++ t0)) μ0) := rfl
def rdSub : RD2 := rdI (fun _ _ => True) fun i j => .int (i - j)
def rdMul : RD2
  | .int i, .int j, μ, Q => mulOk i j ∧ Q (.int (i * j)) μ
  | .str s, .int n, μ, Q => n ≤ 1000000 ∧ -1000000 ≤ n ∧ s.length * n.toNat ≤ SZ ∧ Q (.str (repl n.toNat s)) μ
  | .tup s, .int n, μ, Q => -1000 ≤ n ∧ n ≤ 1000 ∧ s.length ≤ 1000 ∧ Q (.tup (repl n.toNat s)) μ
  | .lst s, .int n, μ, Q => n ≤ 1000000 ∧ -1000000 ≤ n ∧ s.length * n.toNat ≤ SZ ∧ Q (.lst (repl n.toNat s)) μ
  | _, _, _, _ => False
@[simp] theorem rdMul_1 : rdMul  (.int i0) (.int j0) μ0 Q0 = (mulOk i0 j0 ∧ Q0 (.int (i0 * j0)) μ0) := rfl
@[simp] theorem rdMul_2 : rdMul  (.str s0) (.int n0) μ0 Q0 = (n0 ≤ 1000000 ∧ -1000000 ≤ n0 ∧ s0.length * n0.toNat ≤ SZ ∧ Q0 (.str (repl n0.toNat s0)) μ0) := rfl
@[simp] theorem rdMul_3 : rdMul  (.tup s0) (.int n0) μ0 Q0 = (-1000 ≤ n0 ∧ n0 ≤ 1000 ∧ s0.length ≤ 1000 ∧ Q0 (.tup (repl n0.toNat s0)) μ0) := rfl
@[simp] theorem rdMul_4 : rdMul  (.lst s0) (.int n0) μ0 Q0 = (n0 ≤ 1000000 ∧ -1000000 ≤ n0 ∧ s0.length * n0.toNat ≤ SZ ∧ Q0 (.lst (repl n0.toNat s0)) μ0) := rfl
def rdMod : RD2 := rdI (fun _ j => 0 < j) fun i j => .int (i % j)
def rdDiv : RD2 := rdI (fun _ j => divOk j) fun i j => .int (i / j)
def rdPow : RD2 := rdI powOk fun i j => .int (i ^ j.toNat)
def rdShl : RD2 := rdI powOk fun i j => .int (i * 2 ^ j.toNat)
def rdShr : RD2 := rdI (fun _ j => 0 ≤ j) fun i j => .int (i / 2 ^ j.toNat)
def rdAnd : RD2 := rdI (fun _ _ => True) fun i j => .int (Builtin.bitAnd i j)
def rdLt : RD2
  | .int i, .int j, μ, Q => Q (.bl (decide (i < j))) μ
  | .str s, .str t, μ, Q => Q (.bl (decide (s < t))) μ
  | _, _, _, _ => False
@[simp] theorem rdLt_1 : rdLt  (.int i0) (.int j0) μ0 Q0 = (Q0 (.bl (decide (i0 < j0))) μ0) := rfl
@[simp] theorem rdLt_2 : rdLt  (.str s0) (.str t0) μ0 Q0 = (Q0 (.bl (decide (s0 < t0))) μ0) := rfl
def rdLe : RD2 := rdI (fun _ _ => True) fun i j => .bl (decide (i ≤ j))
def rdGt : RD2 := rdI (fun _ _ => True) fun i j => .bl (decide (j < i))
def rdGe : RD2 := rdI (fun _ _ => True) fun i j => .bl (decide (j ≤ i))
@[simp] theorem rdSub_i {i j : Int} {μ : Sto} {Q : DK} : rdSub (.int i) (.int j) μ Q = (Q (.int (i - j)) μ) := by simp [rdSub]
@[simp] theorem rdMod_i {i j : Int} {μ : Sto} {Q : DK} : rdMod (.int i) (.int j) μ Q = (0 < j ∧ Q (.int (i % j)) μ) := by simp [rdMod]
@[simp] theorem rdDiv_i {i j : Int} {μ : Sto} {Q : DK} : rdDiv (.int i) (.int j) μ Q = (divOk j ∧ Q (.int (i / j)) μ) := by simp [rdDiv]
@[simp] theorem rdPow_i {i j : Int} {μ : Sto} {Q : DK} : rdPow (.int i) (.int j) μ Q = (powOk i j ∧ Q (.int (i ^ j.toNat)) μ) := by simp [rdPow]
@[simp] theorem rdShl_i {i j : Int} {μ : Sto} {Q : DK} : rdShl (.int i) (.int j) μ Q = (powOk i j ∧ Q (.int (i * 2 ^ j.toNat)) μ) := by simp [rdShl]
@[simp] theorem rdShr_i {i j : Int} {μ : Sto} {Q : DK} : rdShr (.int i) (.int j) μ Q = (0 ≤ j ∧ Q (.int (i / 2 ^ j.toNat)) μ) := by simp [rdShr]
@[simp] theorem rdAnd_i {i j : Int} {μ : Sto} {Q : DK} : rdAnd (.int i) (.int j) μ Q = (Q (.int (Builtin.bitAnd i j)) μ) := by simp [rdAnd]
@[simp] theorem rdLe_i {i j : Int} {μ : Sto} {Q : DK} : rdLe (.int i) (.int j) μ Q = (Q (.bl (decide (i ≤ j))) μ) := by simp [rdLe]
@[simp] theorem rdGt_i {i j : Int} {μ : Sto} {Q : DK} : rdGt (.int i) (.int j) μ Q = (Q (.bl (decide (j < i))) μ) := by simp [rdGt]
@[simp] theorem rdGe_i {i j : Int} {μ : Sto} {Q : DK} : rdGe (.int i) (.int j) μ Q = (Q (.bl (decide (j ≤ i))) μ) := by simp [rdGe]
/-- are two data equal -/
def D.eqv (x y : D) : Bool := PyData.eqv x.py y.py
def scD : D → D → Bool
  | .int _, .int _ => true
  | .str _, .str _ => true
  | _, _ => false
def okEq (x y : D) : Prop := scD x y = true ∨ (x.flat = true ∧ y.flat = true ∧ SeqAt.shaped x.py = true ∧ SeqAt.shaped y.py = true)
@[simp] def rdEq : RD2 := fun x y μ Q => okEq x y ∧ Q (.bl (D.eqv x y)) μ
@[simp] def rdNe : RD2 := fun x y μ Q => okEq x y ∧ Q (.bl (!D.eqv x y)) μ
@[simp] def isNonD : D → Bool
  | .non => true
  | _ => false
def rdIs : RD2
  | x, .non, μ, Q => Q (.bl (isNonD x)) μ
  | _, _, _, _ => False
@[simp] theorem rdIs_1 : rdIs  x0 (.non) μ0 Q0 = (Q0 (.bl (isNonD x0)) μ0) := rfl
def rdIsNot : RD2
  | x, .non, μ, Q => Q (.bl (!isNonD x)) μ
  | _, _, _, _ => False
@[simp] theorem rdIsNot_1 : rdIsNot  x0 (.non) μ0 Q0 = (Q0 (.bl (!isNonD x0)) μ0) := rfl

section
variable {K : PySem.W.Frag} {mg : Str → Option Value}
theorem ops_I {C : Int → Int → Prop} {C' : Int → Int → Prop} {g : Int → Int → V} {g' : Int → Int → D} (hC : ∀ i j, C' i j → C i j) (hg : ∀ i j F, Dt K mg F (g i j) (g' i j)) : OpS K mg (rI C g) (rdI C' g') := by
  intro F μ H x y dx dy Qd Q o wx wy h k
  cases dx <;> cases dy <;> first | exact h.elim | skip
  obtain ⟨h1, h2⟩ := h
  exact ⟨_, _, wx.int, wy.int, hC _ _ h1, k _ F μ H _ .refl o (hg _ _ F) h2⟩
theorem ops_I0 {C' : Int → Int → Prop} {g : Int → Int → V} {g' : Int → Int → D} (hg : ∀ i j F, Dt K mg F (g i j) (g' i j)) : OpS K mg (rI0 g) (rdI C' g') := by
  intro F μ H x y dx dy Qd Q o wx wy h k
  cases dx <;> cases dy <;> first | exact h.elim | skip
  obtain ⟨h1, h2⟩ := h
  exact ⟨_, _, wx.int, wy.int, k _ F μ H _ .refl o (hg _ _ F) h2⟩
/-- one value, the heap as it stands -/
theorem fin0 {F : Hp} {μ : Sto} {H : Hp} {Qd : DK} {Q : VK} (o : Ok K mg F μ H) (k : ∀ v F' μ' H' dv, Ext F μ H F' μ' H' → Ok K mg F' μ' H' → Dt K mg F' v dv → Qd dv μ' → Q v H') {v : V} {d : D} (h : Dt K mg F v d) (q : Qd d μ) : Q v H :=
  k v F μ H d .refl o h q
def rAddA (K : PySem.W.Frag) : R2 := fun x y H Q => (rI0 (fun i j => .int (i + j)) x y H Q ∨ (∃ i j, x = .str i ∧ y = .str j ∧ i.length + j.length ≤ sizeLine ∧ Q (.str (i ++ j)) H)) ∨ ((rCatZ K x y H Q ∨ rCat x y H Q) ∨ (∃ i k, x = .int i ∧ y = .bl k ∧ Q (.int (i + b2i k)) H))
theorem op_addA {X : Cx} : OpR X (binaryOp .Add) (rAddA X.K) := .or (.or op_add op_add_str) (.or (.or op_catZ op_cat) op_add_ib)
theorem ops_add : OpS K mg (rAddA K) rdAdd := by
  intro F μ H x y dx dy Qd Q o wx wy h k
  cases dx <;> cases dy <;> first | exact h.elim | skip
  · exact .inr (.inr ⟨_, _, wx.int, wy.bl, fin0 o k (.int _) h⟩)
  · exact .inl (.inl ⟨_, _, wx.int, wy.int, fin0 o k (.int _) h⟩)
  · obtain ⟨h1, h2⟩ := h
    refine .inl (.inr ⟨_, _, wx.str, wy.str, ?_, ?_⟩)
    · rw [S_len, S_len, sizeLine_eq]; exact h1
    · rw [S_app]; exact fin0 o k (.str _) h2
  · obtain ⟨h1, h2⟩ := h
    obtain ⟨a, vs, rfl, ha, _, ra⟩ := wx.tup o
    obtain ⟨b, ws, rfl, hb, _, rb⟩ := wy.tup o
    refine .inr (.inl (.inl ⟨a, b, vs, ws, rfl, rfl, ha, hb, ?_, fun e => ?_, fun e1 e2 => ?_, fun e1 e2 p ob hp hob => ?_⟩))
    · rw [ra.length, rb.length, sizeLine_eq]; exact h1
    · subst e; cases ra
      rcases wy with wy | ⟨_, _, _, _, q, _⟩
      · exact fin0 o k wy h2
      · cases q
    · subst e2; cases rb
      rw [List.append_nil] at h2
      rcases wx with wx | ⟨_, _, _, _, q, _⟩
      · exact fin0 o k wx h2
      · cases q
    · obtain ⟨g1, g2, g3⟩ := newTup o (ra.append rb) hp hob
      exact k _ _ _ _ _ g1 g2 g3 h2
  · obtain ⟨h1, h2⟩ := h
    obtain ⟨a, vs, rfl, ha, ra⟩ := wx.lst o
    obtain ⟨b, ws, rfl, hb, rb⟩ := wy.lst o
    refine .inr (.inl (.inr ⟨a, b, vs, ws, rfl, rfl, ha, hb, ?_, fun p hp => ?_⟩))
    · rw [ra.length, rb.length, sizeLine_eq]; exact h1
    · obtain ⟨g1, g2, g3⟩ := newLst o (ra.append rb) hp
      exact k _ _ _ _ _ g1 g2 g3 h2
  · obtain ⟨us, h0, h1, h2⟩ := h
    cases wx.ref
    obtain ⟨vs, ha, ra⟩ := o.sto _ _ h0
    obtain ⟨b, ws, rfl, hb, rb⟩ := wy.lst o
    refine .inr (.inl (.inr ⟨_, b, vs, ws, rfl, rfl, ha, hb, ?_, fun p hp => ?_⟩))
    · rw [ra.length, rb.length, sizeLine_eq]; exact h1
    · obtain ⟨g1, g2, g3⟩ := newLst o (ra.append rb) hp
      exact k _ _ _ _ _ g1 g2 g3 h2
theorem ops_mod : OpS K mg (rI (fun _ j => 0 < j) fun i j => .int (i % j)) rdMod := ops_I (fun _ _ h => h) fun _ _ _ => .int _
theorem ops_pow : OpS K mg (rI CPow fun i j => .int (i ^ j.toNat)) rdPow := ops_I (fun _ _ h => h) fun _ _ _ => .int _
def rDivA : R2 := fun x y H Q => rI CDiv (fun i j => .int (i / j)) x y H Q ∨ rI CDivW (fun i j => .int (i / j)) x y H Q
theorem op_divA {X : Cx} : OpR X (binaryOp .FloorDiv) rDivA := .or op_fdiv op_fdivW
theorem ops_div : OpS K mg rDivA rdDiv := by
  intro F μ H x y dx dy Qd Q o wx wy h k
  cases dx <;> cases dy <;> first | exact h.elim | skip
  obtain ⟨⟨h0, h1 | h1⟩, h2⟩ := h
  · exact .inl ⟨_, _, wx.int, wy.int, ⟨h0, h1⟩, fin0 o k (.int _) h2⟩
  · exact .inr ⟨_, _, wx.int, wy.int, ⟨h0, h1⟩, fin0 o k (.int _) h2⟩
/-- text * int -/
def rRepS : R2 := fun x y H Q => ∃ s n, x = .str s ∧ y = .int n ∧ PySem.MulOk s n ∧ Q (.str (PySem.Txt.mul s n)) H
theorem op_repS {X : Cx} : OpR X (binaryOp .Mult) rRepS := by
  intro pins s σ H x y v u Q I rx ry h
  obtain ⟨z, n, rfl, rfl, hm, q⟩ := h
  obtain ⟨t, rfl⟩ := rx
  obtain ⟨t', rfl⟩ := ry
  exact PySem.SB.mul hm fun t' k => ⟨.str _, H, I.tok _, ⟨_, rfl⟩, q⟩
theorem repl_one {α : Type} (l : List α) : repl 1 l = l := by simp [repl]
theorem flat_const {α : Type} (l : List α) : ∀ n : Nat, (List.replicate (n + 1) l).flatten = l ++ (List.replicate n l).flatten := fun n => by rw [List.replicate_succ, List.flatten_cons]
end
end DL

namespace DL
open PySem PySem.Spec PyProof.Rows L2
section
variable {K : PySem.W.Frag} {mg : Str → Option Value}

theorem foldl_arr (l : List Nat) : ∀ (n : Nat) (acc : List Nat), (List.replicate n l.toArray).foldl (· ++ ·) acc.toArray = (acc ++ repl n l).toArray := by
  intro n
  induction n with
  | zero => intro acc; simp [repl]
  | succ n ih =>
    intro acc
    rw [List.replicate_succ, List.foldl_cons, List.append_toArray, ih]
    simp [repl, List.replicate_succ]
theorem S_mul (l : List Nat) (n : Int) : PySem.Txt.mul (S l) n = S (repl n.toNat l) := by
  unfold PySem.Txt.mul
  by_cases h : n < 1
  · rw [if_pos h, show n.toNat = 0 by omega]
    rfl
  · rw [if_neg h]
    by_cases c : (n == 1 || (S l).length == 0) = true
    · rw [if_pos c]
      rcases Bool.or_eq_true_iff.mp c with c | c
      · have e : n = 1 := by simpa using c
        subst e
        show S l = S (repl 1 l)
        rw [repl_one]
      · have e : l = [] := by
          rw [S_len] at c
          exact List.eq_nil_of_length_eq_zero (by simpa using c)
        subst e
        simp [repl]
    · rw [if_neg c]
      have := foldl_arr l n.toNat []
      rw [List.nil_append] at this
      show (⟨List.foldl (fun x1 x2 => x1 ++ x2) #[] (List.replicate n.toNat l.toArray)⟩ : Str) = ⟨(repl n.toNat l).toArray⟩
      rw [← this]
theorem mulOk_S {l : List Nat} {n : Int} (h1 : n ≤ 1000000) (h2 : -1000000 ≤ n) (h3 : l.length * n.toNat ≤ SZ) : PySem.MulOk (S l) n := by
  refine ⟨?_, fun a b => ?_, fun a b => ?_⟩
  · rw [decide_eq_false (by omega), decide_eq_false (by omega)]; rfl
  · rw [S_len]
    intro c
    have h4 : (l.length : Int) * n ≤ SZ := by
      have : ((l.length * n.toNat : Nat) : Int) ≤ (SZ : Nat) := by exact_mod_cast h3
      rw [Int.natCast_mul, Int.toNat_of_nonneg (by omega)] at this
      exact this
    have h5 : (9223372036854775807 : Int) / n < l.length := c
    have h6 : (9223372036854775807 : Int) < l.length * n := by
      have := Int.lt_mul_of_ediv_lt (show (0 : Int) < n by omega) h5
      omega
    have : ((SZ : Nat) : Int) = 16777216 := rfl
    omega
  · rw [S_len]
    show Builtin.Str.tooLong _ = false
    unfold Builtin.Str.tooLong
    rw [sizeLine_eq]
    exact decide_eq_false (Nat.not_lt.mpr h3)
theorem tmul_same (l : Addr) (its : Array Value) (n : Nat) (dd : Option Addr) (sl : Array (Option Value)) (x : Int) (u : Tok) (c0 : (decide (x < -(2 ^ 63)) || decide (x ≥ 2 ^ 63)) = false) (c1 : (its.isEmpty || x == 1) = true) :
    Meets (Builtin.«tuple.__mul__» ⟨[.ref l, .int x u], []⟩) (fun _ R s => s.heap.get? l = some { cls := .type "tuple", dict := dd, data := .seq its n, slots := sl } ∧ R (.ok (.ret (Value.ref l))) s) :=
  .of_wp fun prog w A R s h => by
    obtain ⟨hp, g, d, tk, os⟩ := s
    obtain ⟨hl, h⟩ := h
    have f1 := AutoSeq1.idx_int
    wp_walk using wpAny_loadPart' hl
    repeat (first
      | (refine wpAny_ite_false (decide_eq_false (by rw [c0]; exact Bool.false_ne_true)) ?_; wp_walk using wpAny_loadPart' hl)
      | (refine wpAny_ite_true (decide_eq_true (by rw [c1])) ?_; wp_walk using wpAny_loadPart' hl))
    exact ⟨_, rfl, h⟩
theorem tmul_none (l : Addr) (its : Array Value) (n : Nat) (dd : Option Addr) (sl : Array (Option Value)) (x : Int) (u : Tok) (c0 : (decide (x < -(2 ^ 63)) || decide (x ≥ 2 ^ 63)) = false) (c1 : (its.isEmpty || x == 1) = false) (c2 : (decide (x ≤ 0) || its.isEmpty) = true) :
    Meets (Builtin.«tuple.__mul__» ⟨[.ref l, .int x u], []⟩) (fun _ R s => s.heap.get? l = some { cls := .type "tuple", dict := dd, data := .seq its n, slots := sl } ∧
      R (.ok (.ret (Value.ref s.heap.objs.size))) { s with heap := s.heap.push { cls := Value.type "tuple", data := Data.seq #[] }, toks := s.toks }) :=
  .of_wp fun prog w A R s h => by
    obtain ⟨hp, g, d, tk, os⟩ := s
    obtain ⟨hl, h⟩ := h
    have f1 := AutoSeq1.idx_int
    wp_walk using wpAny_loadPart' hl
    repeat (first
      | (refine wpAny_ite_false (decide_eq_false (by rw [c0]; exact Bool.false_ne_true)) ?_; wp_walk using wpAny_loadPart' hl)
      | (refine wpAny_ite_false (decide_eq_false (by rw [c1]; exact Bool.false_ne_true)) ?_; wp_walk using wpAny_loadPart' hl)
      | (refine wpAny_ite_true (decide_eq_true (by rw [c2])) ?_; wp_walk using wpAny_loadPart' hl))
    exact ⟨_, rfl, h⟩
def rRepT1 (K : PySem.W.Frag) : R2 := fun x y H Q => ∃ l k xs, x = .ref l ∧ y = .int k ∧ SqT K H l xs ∧ -1000 ≤ k ∧ k ≤ 1000 ∧ (k ≤ 1 ∨ xs = []) ∧ ((k = 1 ∨ xs = []) → Q (.ref l) H) ∧ (k ≤ 0 → xs ≠ [] → newT H Q [])
theorem op_repT1 {X : Cx} : OpR X (binaryOp .Mult) (rRepT1 X.K) := by
  intro pins s σ H x y v u Q I rx ry h
  obtain ⟨l, k, xs, rfl, rfl, hT, h1, h2, h3, qa, qb⟩ := h
  cases rx
  obtain ⟨t, rfl⟩ := ry
  obtain ⟨its, r, ⟨⟨cls, dd, data, sl⟩, ho, hc, n, hd⟩, hs⟩ := I.tuple hT
  simp only at hc hd
  subst hc hd
  have hle : its.length = xs.length := r.length.symm
  have c0 : (decide (k < -(2 ^ 63)) || decide (k ≥ 2 ^ 63)) = false := by
    rw [decide_eq_false (by omega), decide_eq_false (by omega)] <;> rfl
  have go : ∀ {RR : (Result → Shared → Prop) → Shared → Prop}, Meets (Builtin.«tuple.__mul__» ⟨[.ref l, .int k t], []⟩) (fun _ R s => s.heap.get? l = some { cls := .type "tuple", dict := dd, data := .seq its.toArray n, slots := sl } ∧ RR R s) →
      (∀ R : Result → Shared → Prop, (∀ v' s', EP X pins σ Q v' s' → R (.ok (.ret v')) s') → RR R s) → wpAny (model X.prog X.w) X.A (binaryOp .Mult (.ref l) (.int k t)) (EP X pins σ Q) X.xe s := fun {RR} hm hr =>
    wpAny_binaryOp_repeat_ref (T := "tuple") (U := "int") (by decide) ⟨_, ho, rfl⟩ (fun s' => typeIs_int s' k t) noFill_tuple_mul F.fills_int_mul F.slot_int_rmul repeat_tuple F.slot_int_index.lookup
      (call_meets F.slot_int_rmul (typeIs_int s k t) F.entry_int_rmul (F.args_int_rmul_2 _ _) (int_rmul_tuple k t l its.toArray n dd sl)
        ⟨ho, rfl, ⟨_, ho, rfl⟩, call_meets F.slot_tuple_mul ⟨_, ho, rfl⟩ F.entry_tuple_mul (F.args_tuple_mul_2 _ _) hm ⟨ho, hr _ fun v' s' z => z⟩⟩)
  by_cases hk : k = 1 ∨ xs = []
  · have c1 : (its.toArray.isEmpty || k == 1) = true := by
      rcases hk with hk | hk
      · subst hk; simp
      · subst hk
        have : its = [] := List.eq_nil_of_length_eq_zero hle
        subst this; rfl
    exact go (tmul_same l its.toArray n dd sl k t c0 c1) fun R hR => hR _ _ ⟨.ref l, H, I, rfl, qa hk⟩
  · have hn : its ≠ [] := fun e => hk (.inr (List.eq_nil_of_length_eq_zero (by rw [← hle, e]; rfl)))
    have hi : its.toArray.isEmpty = false := by
      cases its with
      | nil => exact absurd rfl hn
      | cons a b => rfl
    have hk0 : k ≤ 0 := by
      have : k ≠ 1 := fun e => hk (.inl e)
      rcases h3 with h3 | h3
      · omega
      · exact absurd (.inr h3) hk
    have c1 : (its.toArray.isEmpty || k == 1) = false := by
      rw [hi, Bool.false_or]
      exact beq_eq_false_iff_ne.mpr (by omega)
    have c2 : (decide (k ≤ 0) || its.toArray.isEmpty) = true := by rw [decide_eq_true hk0]; rfl
    exact go (tmul_none l its.toArray n dd sl k t c0 c1 c2) fun R hR => hR _ _ (fin_tup (its := []) I (Nat.zero_le _) .nil (qb hk0 fun e => hk (.inr e)))
def rMulA (K : PySem.W.Frag) : R2 := fun x y H Q => (rI CMul (fun i j => .int (i * j)) x y H Q ∨ rI CMulW (fun i j => .int (i * j)) x y H Q) ∨ ((rRepS x y H Q ∨ (rRepZ K x y H Q ∨ rRepT1 K x y H Q)) ∨ rRep x y H Q)
theorem op_mulA {X : Cx} : OpR X (binaryOp .Mult) (rMulA X.K) := .or (.or op_mul op_mulW) (.or (.or op_repS (.or op_repZ op_repT1)) op_rep)
theorem Dts.repl {F : Hp} {vs : List V} {ds : List D} (r : Dts K mg F vs ds) : ∀ n, Dts K mg F (List.replicate n vs).flatten (List.replicate n ds).flatten
  | 0 => .nil
  | n + 1 => by
    rw [flat_const, flat_const]
    exact r.append (Dts.repl r n)
theorem ops_mul : OpS K mg (rMulA K) rdMul := by
  intro F μ H x y dx dy Qd Q o wx wy h k
  cases dx <;> cases dy <;> first | exact h.elim | skip
  · obtain ⟨h1 | h1 | h1, h2⟩ := h
    · exact .inl (.inl ⟨_, _, wx.int, wy.int, .inl h1, fin0 o k (.int _) h2⟩)
    · exact .inl (.inl ⟨_, _, wx.int, wy.int, .inr h1, fin0 o k (.int _) h2⟩)
    · exact .inl (.inr ⟨_, _, wx.int, wy.int, h1, fin0 o k (.int _) h2⟩)
  · obtain ⟨h1, h2, h3, h4⟩ := h
    refine .inr (.inl (.inl ⟨_, _, wx.str, wy.int, mulOk_S h1 h2 h3, ?_⟩))
    rw [S_mul]
    exact fin0 o k (.str _) h4
  · rename_i sx nx
    obtain ⟨h1, h2, h4, h5⟩ := h
    obtain ⟨a, vs, rfl, ha, hf, ra⟩ := wx.tup o
    have wd : Dt K mg F (.ref a) (.tup sx) := .tup hf ra
    by_cases hs : nx ≤ 1 ∨ sx = []
    · have e0 : vs = [] ↔ sx = [] := by
        constructor
        · intro e; subst e; cases ra; rfl
        · intro e; subst e; cases ra; rfl
      refine .inr (.inl (.inr (.inr ⟨a, _, vs, rfl, wy.int, ha, h1, h2, hs.imp id e0.mpr, fun hk => ?_, fun hk hne p ob hp hob => ?_⟩)))
      · have : repl nx.toNat sx = sx := by
          rcases hk with hk | hk
          · subst hk; exact repl_one sx
          · rw [e0.mp hk]; simp [repl]
        rw [this] at h5
        exact fin0 o k wd h5
      · rw [show nx.toNat = 0 by omega] at h5
        obtain ⟨g1, g2, g3⟩ := newTup o (vs := []) (ds := []) .nil hp hob
        exact k _ _ _ _ _ g1 g2 g3 h5
    · refine .inr (.inl (.inr (.inl ⟨a, _, vs, rfl, wy.int, ha, fun e => hs ?_, by omega, by omega, by rw [ra.length]; exact h4, fun p ob hp hob => ?_⟩)))
      · subst e; cases ra; exact .inr rfl
      · obtain ⟨g1, g2, g3⟩ := newTup o (ra.repl _) hp hob
        exact k _ _ _ _ _ g1 g2 g3 h5
  · obtain ⟨h1, h2, h3, h5⟩ := h
    obtain ⟨a, vs, rfl, ha, ra⟩ := wx.lst o
    refine .inr (.inr ⟨a, _, vs, rfl, wy.int, ha, by omega, by omega, by rw [ra.length, sizeLine_eq]; exact h3, fun p hp => ?_⟩)
    obtain ⟨g1, g2, g3⟩ := newLst o (ra.repl _) hp
    exact k _ _ _ _ _ g1 g2 g3 h5

def rLtA : R2 := fun x y H Q => rI0 (fun i j => .bl (decide (i < j))) x y H Q ∨ ∃ i j, x = .str i ∧ y = .str j ∧ Q (.bl (decide (i.cps.toList < j.cps.toList))) H
theorem op_ltA {X : Cx} : OpR X (compareOp .Lt) rLtA := .or op_lt op_lt_str
theorem ops_lt : OpS K mg rLtA rdLt := by
  intro F μ H x y dx dy Qd Q o wx wy h k
  cases dx <;> cases dy <;> first | exact h.elim | skip
  · exact .inl ⟨_, _, wx.int, wy.int, fin0 o k (.bl _) h⟩
  · refine .inr ⟨_, _, wx.str, wy.str, ?_⟩
    rw [S_list, S_list]
    exact fin0 o k (.bl _) h
theorem ops_gt : OpS K mg (rI0 fun i j => .bl (decide (j < i))) rdGt := ops_I0 fun _ _ _ => .bl _
theorem ops_ge : OpS K mg (rI0 fun i j => .bl (decide (j ≤ i))) rdGe := ops_I0 fun _ _ _ => .bl _
abbrev r2Or (r r' : R2) : R2 := fun x y H Q => r x y H Q ∨ r' x y H Q
theorem op_eqA {X : Cx} (hu : X.A.units + 64 < cLine) : OpR X (compareOp .Eq) (r2Or (rEqD X.K) rEq) := .or (op_eqD hu) op_eq
theorem op_neA {X : Cx} (hu : X.A.units + 64 < cLine) : OpR X (compareOp .NotEq) (r2Or (rNeD X.K) rNe) := .or (op_neD hu) op_ne
theorem sc_dec {K : PySem.W.Frag} {mg : Str → Option Value} {F H : Hp} {μ : Sto} {x y : V} {dx dy : D} (wx : Wk K mg F μ H x dx) (wy : Wk K mg F μ H y dy) (h : scD dx dy = true) : scal x y = true ∧ decide (x = y) = D.eqv dx dy := by
  cases dx <;> cases dy <;> first | exact (Bool.false_ne_true h).elim | skip
  · rw [wx.int, wy.int]; exact ⟨rfl, dec_int⟩
  · rw [wx.str, wy.str]; exact ⟨rfl, dec_str⟩
theorem ops_eq : OpS K mg (r2Or (rEqD K) rEq) rdEq := by
  intro F μ H x y dx dy Qd Q o wx wy h k
  obtain ⟨h | ⟨f1, f2, s1, s2⟩, q⟩ := h
  · obtain ⟨g1, g2⟩ := sc_dec wx wy h
    exact .inr ⟨g1, by rw [g2]; exact fin0 o k (.bl _) q⟩
  · exact .inl ⟨_, _, wx.dp o f1, wy.dp o f2, s1, s2, fin0 o k (.bl _) q⟩
theorem ops_ne : OpS K mg (r2Or (rNeD K) rNe) rdNe := by
  intro F μ H x y dx dy Qd Q o wx wy h k
  obtain ⟨h | ⟨f1, f2, s1, s2⟩, q⟩ := h
  · obtain ⟨g1, g2⟩ := sc_dec wx wy h
    exact .inr ⟨g1, by rw [g2]; exact fin0 o k (.bl _) q⟩
  · exact .inl ⟨_, _, wx.dp o f1, wy.dp o f2, s1, s2, fin0 o k (.bl _) q⟩
/-- None, a bool, a whole number, a text -/
def D.sc : D → Bool
  | .non => true | .bl _ => true | .int _ => true | .str _ => true
  | _ => false
theorem Dt.sc {F : Hp} {v : V} {d : D} (h : Dt K mg F v d) (q : d.sc = true) : L2.flatV v = true := by
  cases h <;> first | rfl | cases q
theorem Dts.sc {F : Hp} : ∀ {vs : List V} {ds : List D}, Dts K mg F vs ds → ds.all D.sc = true → vs.all L2.flatV = true
  | _, _, .nil, _ => rfl
  | _, _, .cons h r, q => by
    rw [List.all_cons, Bool.and_eq_true_iff] at q ⊢
    exact ⟨h.sc q.1, Dts.sc r q.2⟩
theorem Dt.eqv {F F' : Hp} {v w : V} {d e : D} (h : Dt K mg F v d) (g : Dt K mg F' w e) (q : d.sc = true) (p : e.sc = true) : L2.eqV v w = D.eqv d e := by
  cases h <;> first | cases q | skip
  all_goals cases g <;> first | cases p | skip
  all_goals rfl
theorem Dts.any {F F' : Hp} {w : V} {e : D} (g : Dt K mg F' w e) (p : e.sc = true) : ∀ {vs : List V} {ds : List D}, Dts K mg F vs ds → ds.all D.sc = true → L2.inV w vs = ds.any fun z => D.eqv z e
  | _, _, .nil, _ => rfl
  | _, _, .cons h r, q => by
    rw [List.all_cons, Bool.and_eq_true_iff] at q
    have := Dts.any g p r q.2
    unfold L2.inV at this ⊢
    rw [List.any_cons, List.any_cons, this, h.eqv g q.1 p]
/-- in: a sign in a text; a scalar in a list or tuple of scalars -/
@[simp] def inL (neg : Bool) (x : D) (ds : List D) (μ : Sto) (Q : DK) : Prop := x.sc = true ∧ ds.all D.sc = true ∧ Q (.bl (if neg then !(ds.any fun z => D.eqv z x) else ds.any fun z => D.eqv z x)) μ
def inS (neg : Bool) : D → List Nat → Sto → DK → Prop
  | .str [c], s, μ, Q => Q (.bl (if neg then !decide (c ∈ s) else decide (c ∈ s))) μ
  | _, _, _, _ => False
@[simp] theorem inS_1 (neg : Bool) {c : Nat} {s : List Nat} {μ : Sto} {Q : DK} : inS neg (.str [c]) s μ Q = (Q (.bl (if neg then !decide (c ∈ s) else decide (c ∈ s))) μ) := rfl
def rdInN (neg : Bool) : RD2
  | x, .str s, μ, Q => inS neg x s μ Q
  | x, .lst ds, μ, Q => inL neg x ds μ Q
  | x, .tup ds, μ, Q => inL neg x ds μ Q
  | _, _, _, _ => False
@[simp] theorem rdInN_1 (neg : Bool) {x : D} {s : List Nat} {μ : Sto} {Q : DK} : rdInN neg x (.str s) μ Q = inS neg x s μ Q := rfl
@[simp] theorem rdInN_2 (neg : Bool) {x : D} {s : List D} {μ : Sto} {Q : DK} : rdInN neg x (.lst s) μ Q = inL neg x s μ Q := rfl
@[simp] theorem rdInN_3 (neg : Bool) {x : D} {s : List D} {μ : Sto} {Q : DK} : rdInN neg x (.tup s) μ Q = inL neg x s μ Q := rfl
theorem Wk.val {F H : Hp} {μ : Sto} {x : V} {d : D} (h : Wk K mg F μ H x d) (q : d.sc = true) : Dt K mg F x d := by
  rcases h with h | ⟨a, vs, xs, rfl, rfl, _⟩
  · exact h
  · cases q
/-- x[i] -/
def rdIx : RD2
  | .lst ds, .int i, μ, Q => ∃ d, atI ds i = some d ∧ Q d μ
  | .tup ds, .int i, μ, Q => ∃ d, atI ds i = some d ∧ Q d μ
  | .str s, .int i, μ, Q => s.length ≤ SZ ∧ ∃ c, atI s i = some c ∧ Q (.str [c]) μ
  | .scr ns, .int i, μ, Q => ∃ n, atI ns i = some n ∧ Q (.int n) μ
  | .ref a, .int i, μ, Q => ∃ ds d, μ a = some (.lst ds) ∧ atI ds i = some d ∧ Q d μ
  | _, _, _, _ => False
@[simp] theorem rdIx_1 : rdIx  (.lst ds0) (.int i0) μ0 Q0 = (∃ d, atI ds0 i0 = some d ∧ Q0 d μ0) := rfl
@[simp] theorem rdIx_2 : rdIx  (.tup ds0) (.int i0) μ0 Q0 = (∃ d, atI ds0 i0 = some d ∧ Q0 d μ0) := rfl
@[simp] theorem rdIx_3 : rdIx  (.str s0) (.int i0) μ0 Q0 = (s0.length ≤ SZ ∧ ∃ c, atI s0 i0 = some c ∧ Q0 (.str [c]) μ0) := rfl
@[simp] theorem rdIx_4 : rdIx  (.scr ns0) (.int i0) μ0 Q0 = (∃ n, atI ns0 i0 = some n ∧ Q0 (.int n) μ0) := rfl
@[simp] theorem rdIx_5 : rdIx  (.ref a0) (.int i0) μ0 Q0 = (∃ ds d, μ0 a0 = some (.lst ds) ∧ atI ds i0 = some d ∧ Q0 d μ0) := rfl
theorem Dts.atI {F : Hp} {vs : List V} {ds : List D} {i : Int} {d : D} (r : Dts K mg F vs ds) (h : L2.atI ds i = some d) : ∃ v, L2.atI vs i = some v ∧ Dt K mg F v d := by
  unfold L2.atI at h ⊢
  rw [r.length]
  cases e : ixN ds.length i with
  | none => rw [e] at h; cases h
  | some j =>
    rw [e] at h
    exact r.get h
theorem atI_map {α β : Type} {f : α → β} {xs : List α} {i : Int} {x : α} (h : L2.atI xs i = some x) : L2.atI (xs.map f) i = some (f x) := by
  unfold L2.atI at h ⊢
  rw [List.length_map]
  cases e : ixN xs.length i with
  | none => rw [e] at h; cases h
  | some j =>
    rw [e] at h
    have h' : xs[j]? = some x := h
    show (xs.map f)[j]? = _
    rw [List.getElem?_map, h']
    rfl
theorem ops_ix : OpS K mg (rIx K) rdIx := by
  intro F μ H x y dx dy Qd Q o wx wy h k
  cases dx <;> cases dy <;> first | exact h.elim | skip
  · obtain ⟨h0, c, h1, h2⟩ := h
    refine .inr (.inr ⟨_, _, c, wx.str, wy.int, by rw [S_len, sizeLine_eq]; exact h0, by rw [S_list]; exact h1, fin0 o k (.str [c]) h2⟩)
  · obtain ⟨d, h1, h2⟩ := h
    obtain ⟨a, vs, rfl, ha, _, ra⟩ := wx.tup o
    obtain ⟨v, g1, g2⟩ := ra.atI h1
    exact .inr (.inl ⟨a, vs, _, v, rfl, wy.int, ha, g1, fin0 o k g2 h2⟩)
  · obtain ⟨d, h1, h2⟩ := h
    obtain ⟨a, vs, rfl, ha, ra⟩ := wx.lst o
    obtain ⟨v, g1, g2⟩ := ra.atI h1
    exact .inl ⟨a, vs, _, v, rfl, wy.int, .inl (.inl ha), g1, fin0 o k g2 h2⟩
  · obtain ⟨n, h1, h2⟩ := h
    obtain ⟨a, rfl, ha⟩ := wx.scr o
    exact .inl ⟨a, _, _, _, rfl, wy.int, ha, atI_map h1, fin0 o k (.int _) h2⟩
  · obtain ⟨ds, d, h0, h1, h2⟩ := h
    cases wx.ref
    obtain ⟨vs, ha, ra⟩ := o.sto _ _ h0
    obtain ⟨v, g1, g2⟩ := ra.atI h1
    exact .inl ⟨_, vs, _, v, rfl, wy.int, .inl (.inl ha), g1, fin0 o k g2 h2⟩
end
section
variable {X : Cx} {a b e : Expr} {da db : TED} {pos : Pos}
theorem de_ix (ha : DW X a da) (hb : DW X b db) (hs : PlainIx b) : DE X (.Subscript a b pos) (dOp rdIx da db) := (pe_ix ix_seq ha hb hs).weaken fun _ _ _ q => lift_op ops_ix q

abbrev TOD := DEnv → Sto → (Option Int → Sto → Prop) → Prop
@[simp] def dNoPart : TOD := fun _ μ Q => Q none μ
@[simp] def dPart (d : TED) : TOD := fun ρ μ Q => d ρ μ fun x μ1 => ∃ i, x = .int i ∧ Q (some i) μ1
def cut {α : Type} (l : List α) (lo hi : Option Int) : List α := (l.drop (HT.sIx l.length 0 lo)).take (HT.sIx l.length l.length hi - HT.sIx l.length 0 lo)
def rdSl : D → Option Int → Option Int → Sto → DK → Prop
  | .str s, lo, hi, μ, Q => s.length ≤ SZ ∧ Q (.str (cut s lo hi)) μ
  | .tup ds, lo, hi, μ, Q => Q (.tup (cut ds lo hi)) μ
  | .lst ds, lo, hi, μ, Q => Q (.lst (cut ds lo hi)) μ
  | .scr ns, lo, hi, μ, Q => Q (.lst ((cut ns lo hi).map D.int)) μ
  | _, _, _, _, _ => False
@[simp] theorem rdSl_1 : rdSl  (.str s0) lo0 hi0 μ0 Q0 = (s0.length ≤ SZ ∧ Q0 (.str (cut s0 lo0 hi0)) μ0) := rfl
@[simp] theorem rdSl_2 : rdSl  (.tup ds0) lo0 hi0 μ0 Q0 = (Q0 (.tup (cut ds0 lo0 hi0)) μ0) := rfl
@[simp] theorem rdSl_3 : rdSl  (.lst ds0) lo0 hi0 μ0 Q0 = (Q0 (.lst (cut ds0 lo0 hi0)) μ0) := rfl
@[simp] theorem rdSl_4 : rdSl  (.scr ns0) lo0 hi0 μ0 Q0 = (Q0 (.lst ((cut ns0 lo0 hi0).map D.int)) μ0) := rfl
@[simp] def dSl (a : TED) (lo hi : TOD) : TED := fun ρ μ Q => a ρ μ fun x μ1 => lo ρ μ1 fun l μ2 => hi ρ μ2 fun u μ3 => rdSl x l u μ3 Q
theorem Dts.cut {K : PySem.W.Frag} {mg : Str → Option Value} {F : Hp} {vs : List V} {ds : List D} (r : Dts K mg F vs ds) (lo hi : Option Int) : Dts K mg F (cut vs lo hi) (cut ds lo hi) := by
  unfold DL.cut
  rw [r.length]
  exact (r.drop _).take _
variable {lo hi : Option Expr} {dl dh : TOD} {p2 : Pos}
@[simp] def dNil : TAD := fun _ μ Q => Q [] μ
@[simp] def dCons (a : TED) (t : TAD) : TAD := fun ρ μ Q => a ρ μ fun x μ1 => t ρ μ1 fun xs μ2 => Q (x :: xs) μ2
variable {es : List Expr} {t : TAD}
theorem da_nil : DA X [] dNil := pa_nil.weaken fun σ H Q q => by
  obtain ⟨F, ρ, μ, Qd, R, hd, k⟩ := q
  exact k [] F μ H [] .refl R.ok .nil hd
theorem da_cons (h : DE X e da) (hr : DA X es t) (hs : starEach (e :: es) X.env = (false, eval e X.env) :: starEach es X.env := by rfl) : DA X (e :: es) (dCons da t) := (pa_cons h hr hs).weaken fun σ H Q q => by
  obtain ⟨F, ρ, μ, Qd, R, hd, k⟩ := q
  refine ⟨F, ρ, μ, _, R, hd, fun v F1 μ1 H1 dv e1 o1 w1 q1 => ?_⟩
  exact ⟨F1, ρ, μ1, _, R.ext e1 o1, q1, fun vs F2 μ2 H2 ds e2 o2 w2 q2 => k (v :: vs) F2 μ2 H2 (dv :: ds) (e1.trans e2) o2 (.cons (w1.mono e2.mono) w2) q2⟩
/-- the values only looked at -/
theorem daw_nil : DAW X [] dNil := pa_nil.weaken fun σ H Q q => by
  obtain ⟨F, ρ, μ, Qd, R, hd, k⟩ := q
  exact k [] F μ H [] .refl R.ok .nil hd
theorem Wks.ext {K : PySem.W.Frag} {mg : Str → Option Value} {F F' H H' : Hp} {μ μ' : Sto} (e : Ext F μ H F' μ' H') : ∀ {vs : List V} {ds : List D}, Wks K mg F μ H vs ds → Wks K mg F' μ' H' vs ds
  | _, _, .nil => .nil
  | _, _, .cons h r => .cons (h.ext e) (Wks.ext e r)
theorem daw_cons (h : DW X e da) (hr : DAW X es t) (hs : starEach (e :: es) X.env = (false, eval e X.env) :: starEach es X.env := by rfl) : DAW X (e :: es) (dCons da t) := (pa_cons h hr hs).weaken fun σ H Q q => by
  obtain ⟨F, ρ, μ, Qd, R, hd, k⟩ := q
  refine ⟨F, ρ, μ, _, R, hd, fun v F1 μ1 H1 dv e1 o1 w1 q1 => ?_⟩
  exact ⟨F1, ρ, μ1, _, R.ext e1 o1, q1, fun vs F2 μ2 H2 ds e2 o2 w2 q2 => k (v :: vs) F2 μ2 H2 (dv :: ds) (e1.trans e2) o2 (.cons (w1.ext e2) w2) q2⟩
@[simp] def dTup (t : TAD) : TED := fun ρ μ Q => t ρ μ fun xs μ1 => xs.length ≤ SZ ∧ Q (.tup xs) μ1
@[simp] def dLst (t : TAD) : TED := fun ρ μ Q => t ρ μ fun xs μ1 => xs.length ≤ SZ ∧ Q (.lst xs) μ1
@[simp] def dLstF (t : TAD) : TFD := fun ρ μ Q => t ρ μ fun xs μ1 => xs.length ≤ SZ ∧ Q xs μ1
theorem de_tup {x1} (h : DA X es t) : DE X (.Tuple es x1 pos) (dTup t) := (pe_tupZ h).weaken fun σ H Q q => by
  obtain ⟨F, ρ, μ, Qd, R, hd, k⟩ := q
  refine ⟨F, ρ, μ, _, R, hd, fun vs F1 μ1 H1 ds e1 o1 w1 q1 => ⟨by rw [w1.length, sizeLine_eq]; exact q1.1, fun p ob hp hob => ?_⟩⟩
  obtain ⟨g1, g2, g3⟩ := newTup o1 w1 hp hob
  exact k _ _ _ _ _ (e1.trans g1) g2 g3 q1.2
theorem de_lst (h : DA X es t) : DE X (.List es pos) (dLst t) := (pe_lst h).weaken fun σ H Q q => by
  obtain ⟨F, ρ, μ, Qd, R, hd, k⟩ := q
  refine ⟨F, ρ, μ, _, R, hd, fun vs F1 μ1 H1 ds e1 o1 w1 q1 => ⟨by rw [w1.length, sizeLine_eq]; exact q1.1, fun p hp => ?_⟩⟩
  obtain ⟨g1, g2, g3⟩ := newLst o1 w1 hp
  exact k _ _ _ _ _ (e1.trans g1) g2 g3 q1.2
theorem df_lst (h : DA X es t) : DF X (.List es pos) (dLstF t) := (pe_lst h).weaken fun σ H Q q => by
  obtain ⟨F, ρ, μ, Qd, R, hd, k⟩ := q
  refine ⟨F, ρ, μ, _, R, hd, fun vs F1 μ1 H1 ds e1 o1 w1 q1 => ⟨by rw [w1.length, sizeLine_eq]; exact q1.1, fun p hp => ?_⟩⟩
  obtain ⟨g1, g2⟩ := o1.layN hp (.lst vs)
  obtain ⟨f1, f2⟩ := o1.fresh hp
  have hp0 : H p = none := e1.live p hp
  exact k _ _ _ _ _ _ (e1.trans g2) g1 hp0 f1 f2 upd_same w1 q1.2
end
end DL

namespace DL
open PySem PySem.Spec PyProof.Rows L2
section
variable {K : PySem.W.Frag} {mg : Str → Option Value} {B : Bs} {F F' H H' : Hp} {μ μ' : Sto} {ρ : DEnv} {σ : L2.St}
theorem RelB.step (r : RelB K mg B F ρ μ σ H) (e : Ext F μ H F' μ' H') (o : Ok K mg F' μ' H') : RelB K mg B F' ρ μ' σ H' :=
  ⟨r.rel.ext e o, r.ext.trans e, r.new⟩
theorem RelB.set (r : RelB K mg B F ρ μ σ H) {i : Nat} {v : V} {d : D} (h : Dt K mg F v d) : RelB K mg B F (ρ.set i (some (.val d))) μ (σ.set i (some v)) H := by
  refine ⟨⟨r.rel.ok, by rw [List.length_set, List.length_set]; exact r.rel.len, fun j s e => ?_, fun j l xs ys e1 e2 e3 => ?_⟩, r.ext, fun j xs a e1 e2 => ?_⟩
  · by_cases hj : i = j
    · subst hj
      have hl : i < ρ.length := by
        have := (List.getElem?_eq_some_iff.mp e).1
        rwa [List.length_set] at this
      rw [List.getElem?_set_self hl] at e
      cases e
      exact ⟨v, List.getElem?_set_self (by rw [← r.rel.len]; exact hl), h⟩
    · rw [List.getElem?_set_ne hj] at e
      rw [List.getElem?_set_ne hj]
      exact r.rel.slot j s e
  · have n1 : i ≠ j := fun q => by
      subst q
      rw [List.getElem?_set_self (by have := (List.getElem?_eq_some_iff.mp e1).1; rwa [List.length_set] at this)] at e1
      cases e1
    have n2 : i ≠ l := fun q => by
      subst q
      rw [List.getElem?_set_self (by have := (List.getElem?_eq_some_iff.mp e2).1; rwa [List.length_set] at this)] at e2
      cases e2
    rw [List.getElem?_set_ne n1] at e1 e3
    rw [List.getElem?_set_ne n2] at e2 e3
    exact r.rel.apart j l xs ys e1 e2 e3
  · have n1 : i ≠ j := fun q => by
      subst q
      rw [List.getElem?_set_self (by have := (List.getElem?_eq_some_iff.mp e1).1; rwa [List.length_set] at this)] at e1
      cases e1
    rw [List.getElem?_set_ne n1] at e1 e2
    exact r.new j xs a e1 e2
/-- a slot takes a list that nobody knows -/
theorem RelB.setOwn (r : RelB K mg B F ρ μ σ H) {i : Nat} {p : Addr} {vs : List V} {ds : List D} (hf : F p = none) (hm : μ p = none) (hh : H p = some (.lst vs)) (h : Dts K mg F vs ds) (hb : B.H p = none)
    (hn : ∀ (j : Nat) (xs : List D), i ≠ j → ρ[j]? = some (some (DS.own xs)) → σ[j]? ≠ some (some (.ref p))) : RelB K mg B F (ρ.set i (some (.own ds))) μ (σ.set i (some (.ref p))) H := by
  have len : ∀ {j : Nat} {s : Option DS}, (ρ.set i (some (.own ds)))[j]? = some s → j < ρ.length := fun {j s} e => by
    have := (List.getElem?_eq_some_iff.mp e).1
    rwa [List.length_set] at this
  refine ⟨⟨r.rel.ok, by rw [List.length_set, List.length_set]; exact r.rel.len, fun j s e => ?_, fun j l xs ys e1 e2 e3 => ?_⟩, r.ext, fun j xs a e1 e2 => ?_⟩
  · by_cases hj : i = j
    · subst hj
      have hl := len e
      rw [List.getElem?_set_self hl] at e
      cases e
      exact ⟨_, List.getElem?_set_self (by rw [← r.rel.len]; exact hl), p, vs, rfl, hf, hm, hh, h⟩
    · rw [List.getElem?_set_ne hj] at e
      rw [List.getElem?_set_ne hj]
      exact r.rel.slot j s e
  · by_cases n1 : i = j
    · by_cases n2 : i = l
      · exact n1.symm.trans n2
      · subst n1
        rw [List.getElem?_set_ne n2] at e2 e3
        rw [List.getElem?_set_self (by rw [← r.rel.len]; exact len e1)] at e3
        exact absurd e3.symm (hn l ys n2 e2)
    · by_cases n2 : i = l
      · subst n2
        rw [List.getElem?_set_ne n1] at e1 e3
        rw [List.getElem?_set_self (by rw [← r.rel.len]; exact len e2)] at e3
        exact absurd e3 (hn j xs n1 e1)
      · rw [List.getElem?_set_ne n1] at e1 e3
        rw [List.getElem?_set_ne n2] at e2 e3
        exact r.rel.apart j l xs ys e1 e2 e3
  · by_cases n1 : i = j
    · subst n1
      rw [List.getElem?_set_self (by rw [← r.rel.len]; exact len e1)] at e2
      cases e2
      exact hb
    · rw [List.getElem?_set_ne n1] at e1 e2
      exact r.new j xs a e1 e2
theorem RelB.ownAt (r : RelB K mg B F ρ μ σ H) {i : Nat} {xs : List D} (h : ρ[i]? = some (some (.own xs))) : ∃ p vs, σ[i]? = some (some (.ref p)) ∧ F p = none ∧ μ p = none ∧ H p = some (.lst vs) ∧ Dts K mg F vs xs ∧ B.H p = none := by
  obtain ⟨v, h1, a, vs, rfl, hf, hm, hh, hd⟩ := r.rel.slot i _ h
  exact ⟨a, vs, h1, hf, hm, hh, hd, r.new i xs a h h1⟩
/-- a list of the frame's own is changed -/
theorem RelB.writeOwn (r : RelB K mg B F ρ μ σ H) {i : Nat} {xs ys : List D} {p : Addr} {vs ws : List V} (h : ρ[i]? = some (some (.own xs))) (hs : σ[i]? = some (some (.ref p))) (hf : F p = none) (hm : μ p = none) (hh : H p = some (.lst vs)) (hb : B.H p = none)
    (hd : Dts K mg F ws ys) : RelB K mg B F (ρ.set i (some (.own ys))) μ σ (upd H p (.lst ws)) := by
  have hi : i < ρ.length := (List.getElem?_eq_some_iff.mp h).1
  have other : ∀ (j : Nat) (zs : List D), i ≠ j → ρ[j]? = some (some (DS.own zs)) → σ[j]? ≠ some (some (.ref p)) := fun j zs hj e q => hj (r.rel.apart i j xs zs h e (hs.trans q.symm))
  have ok' := r.rel.ok.writeN hf hm (.lst ws)
  have r' : RelB K mg B F (ρ.set i none) μ σ (upd H p (.lst ws)) := by
    have nn : ∀ {j : Nat} {s : DS}, (ρ.set i none)[j]? = some (some s) → i ≠ j ∧ ρ[j]? = some (some s) := fun {j s} e => by
      by_cases hj : i = j
      · subst hj; rw [List.getElem?_set_self hi] at e; cases e
      · rw [List.getElem?_set_ne hj] at e; exact ⟨hj, e⟩
    refine ⟨⟨ok', by rw [List.length_set]; exact r.rel.len, fun j s e => ?_, fun j l as bs e1 e2 e3 => r.rel.apart j l as bs (nn e1).2 (nn e2).2 e3⟩, ⟨r.ext.mono, fun a o e n => ?_, fun a e => r.ext.live a (upd_live a e)⟩, fun j zs a e1 e2 => r.new j zs a (nn e1).2 e2⟩
    · obtain ⟨hj, e⟩ := nn e
      obtain ⟨v, h1, h2⟩ := r.rel.slot j s e
      refine ⟨v, h1, ?_⟩
      cases s with
      | val d => exact h2
      | own zs =>
        obtain ⟨a, us, rfl, g1, g2, g3, g4⟩ := h2
        have ha : a ≠ p := fun q => other j zs hj e (by rw [h1, q])
        exact ⟨a, us, rfl, g1, g2, by rw [upd_ne ha]; exact g3, g4⟩
    · obtain ⟨g1, g2, g3⟩ := r.ext.keep a o e n
      have ha : a ≠ p := fun q => by subst q; rw [hb] at e; cases e
      exact ⟨by rw [upd_ne ha]; exact g1, g2, g3⟩
  have := r'.setOwn (i := i) (p := p) (ds := ys) hf hm upd_same hd hb (fun j zs hj e => other j zs hj (by rw [List.getElem?_set_ne hj] at e; exact e))
  rw [List.set_set] at this
  have e2 : σ.set i (some (.ref p)) = σ := by
    apply List.ext_getElem?
    intro j
    by_cases hj : i = j
    · subst hj
      rw [List.getElem?_set_self (by rw [← r.rel.len]; exact hi), hs]
    · rw [List.getElem?_set_ne hj]
  rw [e2] at this
  exact this
/-- a list of the frame's own never changes any more -/
theorem RelB.freeze (r : RelB K mg B F ρ μ σ H) {i : Nat} {xs : List D} (h : ρ[i]? = some (some (.own xs))) : ∃ F', FLe F F' ∧ RelB K mg B F' (ρ.set i (some (.val (.lst xs)))) μ σ H ∧ (∃ v, σ[i]? = some (some v) ∧ Dt K mg F' v (.lst xs)) := by
  obtain ⟨p, vs, hs, hf, hm, hh, hd, hb⟩ := r.ownAt h
  have hi : i < ρ.length := (List.getElem?_eq_some_iff.mp h).1
  have ok' := r.rel.ok.freeze hf hm hh
  have mono : ∀ a x, F a = some x → upd F p (.lst vs) a = some x := fun a x e => by rw [upd_ne (ne_of_none e hf)]; exact e
  have dl : Dt K mg (upd F p (.lst vs)) (.ref p) (.lst xs) := .lst upd_same (hd.mono mono)
  refine ⟨upd F p (.lst vs), mono, ?_, _, hs, dl⟩
  have nn : ∀ {j : Nat} {s : DS}, (ρ.set i (some (.val (.lst xs))))[j]? = some (some s) → (i = j ∧ s = .val (.lst xs)) ∨ (i ≠ j ∧ ρ[j]? = some (some s)) := fun {j s} e => by
    by_cases hj : i = j
    · subst hj; rw [List.getElem?_set_self hi] at e; cases e; exact .inl ⟨rfl, rfl⟩
    · rw [List.getElem?_set_ne hj] at e; exact .inr ⟨hj, e⟩
  refine ⟨⟨ok', by rw [List.length_set]; exact r.rel.len, fun j s e => ?_, fun j l as bs e1 e2 e3 => ?_⟩, ⟨fun a x e => mono a x (r.ext.mono a x e), fun a x e n => ?_, r.ext.live⟩, fun j zs a e1 e2 => ?_⟩
  · rcases nn e with ⟨rfl, rfl⟩ | ⟨hj, e⟩
    · exact ⟨_, hs, dl⟩
    · obtain ⟨v, h1, h2⟩ := r.rel.slot j s e
      refine ⟨v, h1, ?_⟩
      cases s with
      | val d => exact Dt.mono mono h2
      | own zs =>
        obtain ⟨a, us, rfl, g1, g2, g3, g4⟩ := h2
        have ha : a ≠ p := fun q => hj (r.rel.apart i j xs zs h e (by rw [hs, h1, q]))
        exact ⟨a, us, rfl, by rw [upd_ne ha]; exact g1, g2, g3, g4.mono mono⟩
  · rcases nn e1 with ⟨_, q⟩ | ⟨_, e1⟩
    · cases q
    · rcases nn e2 with ⟨_, q⟩ | ⟨_, e2⟩
      · cases q
      · exact r.rel.apart j l as bs e1 e2 e3
  · obtain ⟨g1, g2, g3⟩ := r.ext.keep a x e n
    have ha : a ≠ p := fun q => by subst q; rw [hb] at e; cases e
    exact ⟨g1, by rw [upd_ne ha]; exact g2, g3⟩
  · rcases nn e1 with ⟨_, q⟩ | ⟨_, e1⟩
    · cases q
    · exact r.new j zs a e1 e2
end

section
variable {X : Cx} {B : Bs} {st : Stmt} {rest : List Stmt} {t u : TSD} {e : Expr} {d : TED} {pos : Pos}
@[simp] def dNext : TSD := fun D ρ μ => D.nx ρ μ
@[simp] def dSeq (t u : TSD) : TSD := fun D ρ μ => t { D with nx := u D } ρ μ
theorem ds_nil : DSs X B [] dNext := pss_nil.weaken fun D σ H h => by
  obtain ⟨F, ρ, μ, Dd, R, hd, kn, _⟩ := h
  exact kn F ρ μ σ H .rfl' R hd
theorem ds_cons (h1 : DSt X B st t) (h2 : DSs X B rest u) : DSs X B (st :: rest) (dSeq t u) := (pss_cons h1 h2).weaken fun D σ H h => by
  obtain ⟨F, ρ, μ, Dd, R, hd, kn, kb, kc, kr⟩ := h
  exact ⟨F, ρ, μ, { Dd with nx := u Dd }, R, hd, fun F' ρ' μ' σ' H' hF R' q => ⟨F', ρ', μ', Dd, R', q, fun F2 ρ2 μ2 σ2 H2 h2 => kn F2 ρ2 μ2 σ2 H2 (hF.trans h2), fun F2 ρ2 μ2 σ2 H2 h2 => kb F2 ρ2 μ2 σ2 H2 (hF.trans h2), fun F2 ρ2 μ2 σ2 H2 h2 => kc F2 ρ2 μ2 σ2 H2 (hF.trans h2), kr⟩, kb, kc, kr⟩
theorem ds_last (h1 : DSt X B st t) : DSs X B [st] t := pss_one h1
@[simp] def dBreak : TSD := fun D ρ μ => D.bk ρ μ
@[simp] def dCont : TSD := fun D ρ μ => D.ct ρ μ
/-- ghost: a list of the frame's own never changes any more -/
@[simp] def dFreeze (i : Nat) (t : TSD) : TSD := fun D ρ μ => ∃ xs, ρ[i]? = some (some (.own xs)) ∧ t D (ρ.set i (some (.val (.lst xs)))) μ
@[simp] def dDrop (d : TED) : TSD := fun D ρ μ => d ρ μ fun _ μ1 => D.nx ρ μ1
theorem ds_expr (he : DE X e d) (hs : swapsWith e none pos.line X.env = pure false := by rfl) : DSt X B (.Expr e pos) (dDrop d) := (ps_expr he hs).weaken fun D σ H h => by
  obtain ⟨F, ρ, μ, Dd, R, hd, kn, kb, kc, kr⟩ := h
  exact ⟨F, ρ, μ, _, R.rel, hd, fun v F' μ' H' dv e o w q => kn F' ρ μ' σ H' e.mono (R.step e o) q⟩
@[simp] def dRet (d : TED) : TSD := fun D ρ μ => d ρ μ D.rt
theorem ds_ret (he : DE X e d) : DSt X B (.Return (some e) pos) (dRet d) := (ps_ret he).weaken fun D σ H h => by
  obtain ⟨F, ρ, μ, Dd, R, hd, kn, kb, kc, kr⟩ := h
  exact ⟨F, ρ, μ, _, R.rel, hd, fun v F' μ' H' dv e o w q => kr v F' μ' H' dv (R.ext.trans e) o w q⟩
@[simp] def dIfS (c : TTD) (t u : TSD) : TSD := fun D ρ μ => c ρ μ fun b μ1 => if b = true then t D ρ μ1 else u D ρ μ1
theorem ds_if {c : Expr} {a b : List Stmt} {tc : TTD} (hc : DT X c tc) (ha : DSs X B a t) (hb : DSs X B b u) : DSt X B (.If c a b pos) (dIfS tc t u) := (ps_if hc ha hb).weaken fun D σ H h => by
  obtain ⟨F, ρ, μ, Dd, R, hd, kn, kb, kc, kr⟩ := h
  refine ⟨F, ρ, μ, _, R.rel, hd, fun b F' μ' H' e o q => ?_⟩
  cases b with
  | true => exact ⟨F', ρ, μ', Dd, R.step e o, q, fun F2 ρ2 μ2 σ2 H2 h2 => kn F2 ρ2 μ2 σ2 H2 (FLe.trans e.mono h2), fun F2 ρ2 μ2 σ2 H2 h2 => kb F2 ρ2 μ2 σ2 H2 (FLe.trans e.mono h2), fun F2 ρ2 μ2 σ2 H2 h2 => kc F2 ρ2 μ2 σ2 H2 (FLe.trans e.mono h2), kr⟩
  | false => exact ⟨F', ρ, μ', Dd, R.step e o, q, fun F2 ρ2 μ2 σ2 H2 h2 => kn F2 ρ2 μ2 σ2 H2 (FLe.trans e.mono h2), fun F2 ρ2 μ2 σ2 H2 h2 => kb F2 ρ2 μ2 σ2 H2 (FLe.trans e.mono h2), fun F2 ρ2 μ2 σ2 H2 h2 => kc F2 ρ2 μ2 σ2 H2 (FLe.trans e.mono h2), kr⟩

abbrev TGD := D → DEnv → (DEnv → Prop) → Prop
abbrev TGDs := List D → DEnv → (DEnv → Prop) → Prop
/-- ns: the slots that it may store to -/
def liftG (K : PySem.W.Frag) (mg : Str → Option Value) (B : Bs) (ns : List Nat) (g : TGD) : TG := fun v σ H Q => ∃ F ρ μ dv Qd, RelB K mg B F ρ μ σ H ∧ Dt K mg F v dv ∧ g dv ρ Qd ∧
  ∀ ρ' σ', RelB K mg B F ρ' μ σ' H → σ'.length = σ.length → (∀ j, j ∉ ns → σ'[j]? = σ[j]?) → Qd ρ' → Q σ' H
abbrev DG (X : Cx) (B : Bs) (tg : Expr) (ns : List Nat) (g : TGD) : Prop := PG X tg (liftG X.K X.mg B ns g)
theorem _root_.L2.PG.weaken {X : Cx} {e : Expr} {t t' : TG} (h : PG X e t) (w : ∀ v σ H Q, t' v σ H Q → t v σ H Q) : PG X e t' := ⟨fun pins s σ H v u Q I r q => h.run pins s σ H v u Q I r (w v σ H Q q)⟩
theorem _root_.L2.PGs.weaken {X : Cx} {e : List Expr} {t t' : TGs} (h : PGs X e t) (w : ∀ v σ H Q, t' v σ H Q → t v σ H Q) : PGs X e t' := ⟨fun pins s σ H v u Q I r q => h.run pins s σ H v u Q I r (w v σ H Q q)⟩
@[simp] def dName (i : Nat) : TGD := fun d ρ Q => Q (ρ.set i (some (.val d)))
theorem dg_name {i : Nat} {x : Str} (h : PG X (.Name x pos) (gName i)) : DG X B (.Name x pos) [i] (dName i) := h.weaken fun v σ H Q q => by
  obtain ⟨F, ρ, μ, dv, Qd, R, w, hd, k⟩ := q
  exact k _ _ (R.set w) (by rw [List.length_set]) (fun j hj => List.getElem?_set_ne fun z => hj (by simp [z])) hd
@[simp] def gdNil : TGDs
  | [], ρ, Q => Q ρ
  | _ :: _, _, _ => False
@[simp] def gdCons (g : TGD) (gs : TGDs) : TGDs
  | d :: r, ρ, Q => g d ρ fun ρ1 => gs r ρ1 Q
  | [], _, _ => False
/-- (a, b, ..) = a tuple, a list of that length -/
@[simp] def dUnp (n : Nat) (gs : TGDs) : TGD
  | .tup ds, ρ, Q => ds.length = n ∧ gs ds ρ Q
  | .pr a b, ρ, Q => n = 2 ∧ gs [a, b] ρ Q
  | _, _, _ => False
@[simp] def dUnl (n : Nat) (gs : TGDs) : TGD
  | .lst ds, ρ, Q => ds.length = n ∧ gs ds ρ Q
  | _, _, _ => False
@[simp] def dAsg (d : TED) (g : TGD) : TSD := fun D ρ μ => d ρ μ fun x μ1 => g x ρ fun ρ1 => D.nx ρ1 μ1
@[simp] def dSet (i : Nat) (d : TED) : TSD := fun D ρ μ => d ρ μ fun x μ1 => D.nx (ρ.set i (some (.val x))) μ1
/-- x = a new list, x's own -/
@[simp] def dSetF (i : Nat) (d : TFD) : TSD := fun D ρ μ => d ρ μ fun xs μ1 => D.nx (ρ.set i (some (.own xs))) μ1
/-- x op= e -/
@[simp] def dAug (i : Nat) (r : RD2) (d : TED) : TSD := fun D ρ μ => ∃ x, ρ[i]? = some (some (.val x)) ∧ d ρ μ fun y μ1 => r x y μ1 fun z μ2 => D.nx (ρ.set i (some (.val z))) μ2
@[simp] def dApp (i : Nat) (d : TED) : TSD := fun E ρ μ => ∃ xs, ρ[i]? = some (some (.own xs)) ∧ d ρ μ fun y μ1 => xs.length < SZ ∧ E.nx (ρ.set i (some (.own (xs ++ [y])))) μ1
theorem ds_app {i : Nat} {x : Str} {p apos cpos : Pos} (h : ∀ t, PA X [e] t → PS X (.Expr (.Call (.Attribute (.Name x p) "append" apos) [e] [] cpos) pos) (tDrop (tBM X.K "list" rAppend (tVar i) t)))
    (he : DE X e d) (hs : starEach [e] X.env = (false, eval e X.env) :: starEach [] X.env := by rfl) : DSt X B (.Expr (.Call (.Attribute (.Name x p) "append" apos) [e] [] cpos) pos) (dApp i d) := (h _ (pa_cons he pa_nil hs)).weaken fun D σ H h => by
  obtain ⟨F, ρ, μ, Dd, R, ⟨xs, hx, hd⟩, kn, kb, kc, kr⟩ := h
  obtain ⟨q, vs, hs, hf, hm, hh, hds, hb⟩ := R.ownAt hx
  refine ⟨.ref q, hs, .inl ⟨rfl, _, .inl (.inl hh)⟩, F, ρ, μ, _, R.rel, hd, fun v F' μ' H' dv e o w hq => ?_⟩
  obtain ⟨h1, h2, h3⟩ := e.keep q _ hh hm
  refine ⟨q, vs, v, rfl, rfl, h1, by rw [hds.length, sizeLine_eq]; exact hq.1, ?_⟩
  exact kn F' _ μ' σ _ e.mono ((R.step e o).writeOwn hx hs (h2.trans hf) h3 h1 hb ((hds.mono e.mono).append (.one w))) hq.2
/-- x.extend(e) -/
@[simp] def dExt (i : Nat) (d : TED) : TSD := fun E ρ μ => ∃ xs, ρ[i]? = some (some (.own xs)) ∧ d ρ μ fun y μ1 => ∃ ys, y = .lst ys ∧ xs.length + ys.length ≤ SZ ∧ E.nx (ρ.set i (some (.own (xs ++ ys)))) μ1
/-- what a loop walks: the items, and what must stay true of what may change -/
abbrev TSrc := DEnv → Sto → (List D → (Sto → Prop) → Sto → Prop) → Prop
abbrev still : Sto → Prop := fun _ => True
/-- the iterator J yields the items -/
def ItD (K : PySem.W.Frag) (mg : Str → Option Value) (F : Hp) (J : It) (items : List D) (inv : Sto → Prop) : Prop :=
  ∀ (F1 : Hp) (μ1 : Sto) (H1 : Hp), (∀ a o, F a = some o → F1 a = some o) → Ok K mg F1 μ1 H1 → inv μ1 → ∀ i : Nat,
    (i < items.length → J.go i H1 ∧ ∀ x H2, J.yld i H1 x H2 → ∃ F2 d, Ext F1 μ1 H1 F2 μ1 H2 ∧ Ok K mg F2 μ1 H2 ∧ items[i]? = some d ∧ Dt K mg F2 x d) ∧
    (i = items.length → J.stop i H1)
def liftI (K : PySem.W.Frag) (mg : Str → Option Value) (d : TSrc) : TI := fun σ H R => ∃ F ρ μ Qd, Rel K mg F ρ μ σ H ∧ d ρ μ Qd ∧ ∀ J F' μ' H' items inv, Ext F μ H F' μ' H' → Ok K mg F' μ' H' → ItD K mg F' J items inv → Qd items inv μ' → R J H'
abbrev DI (X : Cx) (tg e : Expr) (d : TSrc) : Prop := PI X tg e (liftI X.K X.mg d)
theorem _root_.L2.PI.weaken {X : Cx} {tg e : Expr} {t t' : TI} (h : PI X tg e t) (w : ∀ σ H Q, t' σ H Q → t σ H Q) : PI X tg e t' := ⟨fun pins s σ H Q I q => h.run pins s σ H Q I (w σ H Q q)⟩
@[simp] def forD (g : TGD) (body : TSD) (E : DEnds) (inv : Sto → Prop) : List D → DEnv → Sto → Prop
  | [], ρ, μ => inv μ ∧ E.nx ρ μ
  | x :: xs, ρ, μ => inv μ ∧ g x ρ fun ρ1 => body { E with nx := forD g body E inv xs, ct := forD g body E inv xs, bk := E.nx } ρ1 μ
@[simp] def dFor (src : TSrc) (g : TGD) (body : TSD) : TSD := fun E ρ μ => src ρ μ fun items inv μ1 => forD g body E inv items ρ μ1
theorem ds_for {tg iter : Expr} {body : List Stmt} {src : TSrc} {ns : List Nat} {g : TGD} {tb : TSD} (hp : PassesOwn (model X.prog X.w) X.A X.env X.xe) (hc : X.calm = true) (hi : DI X tg iter src) (hg : DG X B tg ns g) (hb : DSs X B body tb)
    (hs : ∀ x, foldedSetIterable iter X.env x = pure x := by intro _; rfl) : DSt X B (.For tg iter body [] pos) (dFor src g tb) := (ps_for hp hc hi hg hb hs).weaken fun D σ H h => by
  obtain ⟨F, ρ, μ, Dd, R, hd, kn, kb, kc, kr⟩ := h
  refine ⟨F, ρ, μ, _, R.rel, hd, fun J F0 μ0 H0 items inv e0 o0 it q0 => ?_⟩
  refine ⟨fun i m σ1 H1 => ∃ F1 ρ1 μ1, m = items.length - i ∧ i ≤ items.length ∧ (∀ a o, F0 a = some o → F1 a = some o) ∧ RelB X.K X.mg B F1 ρ1 μ1 σ1 H1 ∧ forD g tb Dd inv (items.drop i) ρ1 μ1,
    ⟨items.length, F0, ρ, μ0, by simp, Nat.zero_le _, fun _ _ z => z, R.step e0 o0, by simpa using q0⟩, ?_⟩
  rintro i m σ1 H1 ⟨F1, ρ1, μ1, rfl, hi, hF, R1, q1⟩
  have hinv : inv μ1 := by
    cases hz : items.drop i with
    | nil => rw [hz] at q1; exact q1.1
    | cons x xs => rw [hz] at q1; exact q1.1
  obtain ⟨hgo, hstop⟩ := it F1 μ1 H1 hF R1.rel.ok hinv i
  by_cases hlt : i < items.length
  · obtain ⟨g1, g2⟩ := hgo hlt
    refine .inr ⟨g1, fun σ' H' => ∃ F' ρ' μ', (∀ a o, F0 a = some o → F' a = some o) ∧ RelB X.K X.mg B F' ρ' μ' σ' H' ∧ forD g tb Dd inv (items.drop (i + 1)) ρ' μ', fun σ' H' ⟨F', ρ', μ', a1, a2, a3⟩ => ⟨items.length - (i + 1), by omega, F', ρ', μ', rfl, hlt, a1, a2, a3⟩, fun x H2 hy => ?_⟩
    obtain ⟨F2, d, e2, o2, hx, wx⟩ := g2 x H2 hy
    have hdrop : items.drop i = d :: items.drop (i + 1) := by
      have hd := List.drop_eq_getElem_cons hlt
      rw [List.getElem?_eq_getElem hlt] at hx
      cases hx
      exact hd
    rw [hdrop] at q1
    refine ⟨F2, ρ1, μ1, d, _, R1.step e2 o2, wx, q1.2, fun ρ3 σ3 R3 _ _ q3 => ?_⟩
    have hF2 : FLe F0 F2 := fun a o z => e2.mono a o (hF a o z)
    have hF2' : FLe F F2 := fun a o z => hF2 a o (e0.mono a o z)
    exact ⟨F2, ρ3, μ1, _, R3, q3, fun F4 ρ4 μ4 σ4 H4 h4 R4 q4 => ⟨F4, ρ4, μ4, hF2.trans h4, R4, q4⟩, fun F4 ρ4 μ4 σ4 H4 h4 R4 q4 => kn F4 ρ4 μ4 σ4 H4 (hF2'.trans h4) R4 q4, fun F4 ρ4 μ4 σ4 H4 h4 R4 q4 => ⟨F4, ρ4, μ4, hF2.trans h4, R4, q4⟩, kr⟩
  · have : i = items.length := by omega
    subst this
    refine .inl ⟨hstop rfl, ?_⟩
    rw [List.drop_length] at q1
    exact kn F1 ρ1 μ1 σ1 H1 (fun a o z => hF a o (e0.mono a o z)) R1 q1.2
end
end DL

namespace DL
open PySem PySem.Spec PyProof.Rows L2
section
variable {K : PySem.W.Frag} {mg : Str → Option Value} {F : Hp}
theorem itd_list {a : Addr} {vs : List V} {ds : List D} (h : F a = some (.lst vs)) (r : Dts K mg F vs ds) : ItD K mg F (Itl K a) ds still := by
  intro F1 μ1 H1 hF o1 _ i
  have ha : SqL K H1 a vs := .inl (.inl (o1.sub _ _ (hF _ _ h)))
  refine ⟨fun hi => ⟨⟨vs, vs[i]'(by rw [r.length]; exact hi), ha, List.getElem?_eq_getElem _⟩, fun x H2 hy => ?_⟩, fun e => ⟨vs, ha, by rw [r.length, e]; exact Nat.le_refl _⟩⟩
  obtain ⟨rfl, hx⟩ := hy
  obtain ⟨d, hd, w⟩ := r.getV (hx vs ha)
  exact ⟨F1, d, .refl, o1, hd, w.mono hF⟩
/-- a list that changes, as long as it does not -/
theorem itd_ref (a : Addr) (ds : List D) : ItD K mg F (Itl K a) ds (fun μ => μ a = some (.lst ds)) := by
  intro F1 μ1 H1 hF o1 hi i
  obtain ⟨vs, h, r⟩ := o1.sto _ _ hi
  have ha : SqL K H1 a vs := .inl (.inl h)
  refine ⟨fun hi => ⟨⟨vs, vs[i]'(by rw [r.length]; exact hi), ha, List.getElem?_eq_getElem _⟩, fun x H2 hy => ?_⟩, fun e => ⟨vs, ha, by rw [r.length, e]; exact Nat.le_refl _⟩⟩
  obtain ⟨rfl, hx⟩ := hy
  obtain ⟨d, hd, w⟩ := r.getV (hx vs ha)
  exact ⟨F1, d, .refl, o1, hd, w⟩
theorem itd_scr {a : Addr} {ns : List Int} (h : SqL K F a (ns.map V.int)) : ItD K mg F (Itl K a) (ns.map D.int) still := by
  intro F1 μ1 H1 hF o1 _ i
  have ha : SqL K H1 a (ns.map V.int) := SqL.mono' (fun b u z => o1.sub _ _ (hF _ _ z)) h
  refine ⟨fun hi => ⟨⟨_, (ns.map V.int)[i]'(by simpa using hi), ha, List.getElem?_eq_getElem _⟩, fun x H2 hy => ?_⟩, fun e => ⟨_, ha, by simp [e]⟩⟩
  obtain ⟨rfl, hx⟩ := hy
  obtain ⟨d, hd, w⟩ := (Dts.ofInts (K := K) (mg := mg) (F := F1) ns).getV (hx _ ha)
  exact ⟨F1, d, .refl, o1, hd, w⟩
theorem itd_tup {a : Addr} {vs : List V} {ds : List D} (h : SqT K F a vs) (r : Dts K mg F vs ds) : ItD K mg F (Itt K a) ds still := by
  intro F1 μ1 H1 hF o1 _ i
  have ha : SqT K H1 a vs := SqT.mono' (fun b u z => o1.sub _ _ (hF _ _ z)) h
  refine ⟨fun hi => ⟨⟨vs, vs[i]'(by rw [r.length]; exact hi), ha, List.getElem?_eq_getElem _⟩, fun x H2 hy => ?_⟩, fun e => ⟨vs, ha, by rw [r.length, e]; exact Nat.le_refl _⟩⟩
  obtain ⟨rfl, hx⟩ := hy
  obtain ⟨d, hd, w⟩ := r.getV (hx vs ha)
  exact ⟨F1, d, .refl, o1, hd, w.mono hF⟩
def rngD (lo : Int) (n : Nat) : List D := (List.range n).map fun i => .int (lo + (i : Nat))
theorem itd_rng (lo : Int) (n : Nat) : ItD K mg F (Itr lo n) (rngD lo n) still := by
  intro F1 μ1 H1 hF o1 _ i
  unfold rngD
  refine ⟨fun hi => ⟨by show i < n; simpa using hi, fun x H2 hy => ?_⟩, fun e => by
    have e' : i = n := by simpa using e
    exact Nat.le_of_eq e'.symm⟩
  obtain ⟨rfl, rfl⟩ := hy
  have hi' : i < n := by simpa using hi
  refine ⟨F1, .int (lo + i), .refl, o1, ?_, .int _⟩
  rw [List.getElem?_map, List.getElem?_range hi']
  rfl
def strD (s : List Nat) : List D := s.map fun c => .str [c]
theorem itd_str (s : List Nat) : ItD K mg F (Its (S s)) (strD s) still := by
  intro F1 μ1 H1 hF o1 _ i
  have hs : (S s).cps.size = s.length := S_len s
  unfold strD
  refine ⟨fun hi => ⟨?_, fun x H2 hy => ?_⟩, fun e => ?_⟩
  · show i < (S s).cps.size
    rw [hs]; simpa using hi
  · obtain ⟨rfl, c, hc, rfl⟩ := hy
    refine ⟨F1, .str [c], .refl, o1, ?_, .str [c]⟩
    have hc' : s[i]? = some c := by simpa using hc
    rw [List.getElem?_map, hc']
    rfl
  · show (S s).cps.size ≤ i
    rw [hs]; simp at e; omega
end
section
variable {X : Cx} {tg : Expr} {e : Expr} {es : List Expr} {d : TED} {t : TAD} {p pos : Pos}
/-- the items of a list, a tuple, a text, the script -/
@[simp] def dEach (d : TED) : TSrc := fun ρ μ Q => d ρ μ fun x μ1 => match x with
  | .lst xs => Q xs still μ1
  | .tup xs => Q xs still μ1
  | .str s => Q (strD s) still μ1
  | .scr ns => Q (ns.map D.int) still μ1
  | .ref a => ∃ xs, μ1 a = some (.lst xs) ∧ Q xs (fun μ => μ a = some (.lst xs)) μ1
  | _ => False
def iAny (K : PySem.W.Frag) (te : TE) : TI := fun σ H R => te σ H fun x H1 => (∃ a, x = .ref a ∧ (∃ xs, SqL K H1 a xs) ∧ R (Itl K a) H1) ∨ (∃ a, x = .ref a ∧ (∃ xs, SqT K H1 a xs) ∧ R (Itt K a) H1) ∨ (∃ z, x = .str z ∧ R (Its z) H1)
theorem pi_any {l : Expr} {tl : TE} (hl : PE X l tl) : PI X tg l (iAny X.K tl) := by
  refine ⟨fun pins s σ H R I h => ?_⟩
  refine thn (hl.run pins s σ H _ I h) fun v s1 ⟨x, H1, I1, r1, q1⟩ => ?_
  rcases q1 with ⟨a, rfl, ⟨xs, hq⟩, q⟩ | ⟨a, rfl, ⟨xs, hq⟩, q⟩ | ⟨z, rfl, q⟩
  · cases r1
    obtain ⟨its, _, pl, _⟩ := I1.list hq
    exact wpAny_pyIter_list pl.isList (pi_one (tk := s1.toks) I1 _ (turn_list a _) ⟨_, Heap.get?_push_size _ rfl, rfl, rfl⟩ q)
  · cases r1
    obtain ⟨its, _, tp, _⟩ := I1.tuple hq
    exact wpAny_pyIter_tuple tp (pi_one (tk := s1.toks) I1 _ (turn_tuple a _) ⟨_, Heap.get?_push_size _ rfl, rfl, rfl⟩ q)
  · obtain ⟨t, rfl⟩ := r1
    cases ha : z.cps.all (· < 128)
    · exact wpAny_pyIter_wide ha (pi_one (tk := s1.toks) I1 _ (turn_str _ z t "str_iterator" (.inr rfl)) ⟨_, Heap.get?_push_size _ rfl, rfl, rfl⟩ q)
    · exact wpAny_pyIter_ascii ha (pi_one (tk := s1.toks) I1 _ (turn_str _ z t "str_ascii_iterator" (.inl rfl)) ⟨_, Heap.get?_push_size _ rfl, rfl, rfl⟩ q)
theorem di_each (h : DE X e d) : DI X tg e (dEach d) := (pi_any h).weaken fun σ H R q => by
  obtain ⟨F, ρ, μ, Qd, Rl, hd, k⟩ := q
  refine ⟨F, ρ, μ, _, Rl, hd, fun v F' μ' H' dv e o w q => ?_⟩
  cases dv <;> first | exact q.elim | skip
  · cases w
    exact .inr (.inr ⟨_, rfl, k _ F' μ' H' _ _ e o (itd_str _) q⟩)
  · cases w with
    | tup h r => exact .inr (.inl ⟨_, rfl, ⟨_, SqT.sub o h.sq⟩, k _ F' μ' H' _ _ e o (itd_tup h.sq r) q⟩)
  · cases w with
    | lst h r => exact .inl ⟨_, rfl, ⟨_, .inl (.inl (o.sub _ _ h))⟩, k _ F' μ' H' _ _ e o (itd_list h r) q⟩
  · cases w with
    | scr h => exact .inl ⟨_, rfl, ⟨_, SqL.mono' o.sub h⟩, k _ F' μ' H' _ _ e o (itd_scr h) q⟩
  · cases w
    obtain ⟨xs, hx, q⟩ := q
    obtain ⟨vs, ha, r⟩ := o.sto _ _ hx
    exact .inl ⟨_, rfl, ⟨_, .inl (.inl ha)⟩, k _ F' μ' H' _ _ e o (itd_ref _ _) q⟩
def rngOk (i : Int) : Prop := -4611686018427387904 ≤ i ∧ i < 4611686018427387904
@[simp] def dRng1 (t : TAD) : TSrc := fun ρ μ Q => t ρ μ fun xs μ1 => match xs with
  | [.int j] => rngOk j ∧ Q (rngD 0 j.toNat) still μ1
  | _ => False
@[simp] def dRng2 (t : TAD) : TSrc := fun ρ μ Q => t ρ μ fun xs μ1 => match xs with
  | [.int i, .int j] => rngOk i ∧ rngOk j ∧ Q (rngD i (j - i).toNat) still μ1
  | _ => False
theorem di_rng1 (hg : Gl X "range") (hm : X.mg "range" = none) (h : DA X [e] t) (hs : starEach [e] X.env = [(false, eval e X.env)] := by rfl) : DI X tg (.Call (.Name "range" p) [e] [] pos) (dRng1 t) := (pi_range1 hg hm h hs).weaken fun σ H R q => by
  obtain ⟨F, ρ, μ, Qd, Rl, hd, k⟩ := q
  refine ⟨F, ρ, μ, _, Rl, hd, fun vs F' μ' H' ds e o w q => ?_⟩
  split at q
  · cases w with
    | cons h r =>
      cases r
      cases h
      exact ⟨_, rfl, q.1.1, q.1.2, k _ F' μ' H' _ _ e o (itd_rng _ _) q.2⟩
  · exact q.elim
def enumD (k : Nat) : List D → List D
  | [] => []
  | x :: xs => .pr (.int k) x :: enumD (k + 1) xs
/-- enumerate of a list -/
@[simp] def dEnum (t : TAD) : TSrc := fun ρ μ Q => t ρ μ fun xs μ1 => match xs with
  | [.lst ds] => Q (enumD 0 ds) still μ1
  | [.ref a] => ∃ ds, μ1 a = some (.lst ds) ∧ Q (enumD 0 ds) (fun μ => μ a = some (.lst ds)) μ1
  | _ => False
/-- by what holds ahead of each turn, and a number that falls -/
def dWhile (c : TTD) (body : TSD) : TSD := fun E ρ μ => ∃ W : Nat → DEnv → Sto → Prop, (∃ m, W m ρ μ) ∧ ∀ m ρ μ, W m ρ μ →
  c ρ μ fun b μ1 => if b = true then ∃ N : DEnv → Sto → Prop, (∀ ρ' μ', N ρ' μ' → ∃ m', m' < m ∧ W m' ρ' μ') ∧ body { E with nx := N, ct := N, bk := E.nx } ρ μ1 else E.nx ρ μ1
theorem ds_while {B : Bs} {c : Expr} {body : List Stmt} {tc : TTD} {tb : TSD} (hp : PassesOwn (model X.prog X.w) X.A X.env X.xe) (hc : DT X c tc) (hb : DSs X B body tb) : DSt X B (.While c body [] pos) (dWhile tc tb) := (ps_while hp hc hb).weaken fun D σ H h => by
  obtain ⟨F, ρ, μ, Dd, R, ⟨W, ⟨m0, w0⟩, turn⟩, kn, kb, kc, kr⟩ := h
  refine ⟨fun m σ1 H1 => ∃ F1 ρ1 μ1, FLe F F1 ∧ RelB X.K X.mg B F1 ρ1 μ1 σ1 H1 ∧ W m ρ1 μ1, ⟨m0, F, ρ, μ, .rfl', R, w0⟩, ?_⟩
  rintro m σ1 H1 ⟨F1, ρ1, μ1, hF, R1, q1⟩
  refine ⟨F1, ρ1, μ1, _, R1.rel, turn m ρ1 μ1 q1, fun b F2 μ2 H2 e2 o2 q2 => ?_⟩
  cases b with
  | true =>
    obtain ⟨N, hN, q2⟩ := q2
    have hF2 : FLe F F2 := hF.trans e2.mono
    refine ⟨fun σ' H' => ∃ F' ρ' μ', FLe F F' ∧ RelB X.K X.mg B F' ρ' μ' σ' H' ∧ N ρ' μ', fun σ' H' ⟨F', ρ', μ', a1, a2, a3⟩ => ?_, ?_⟩
    · obtain ⟨m', hm, w'⟩ := hN ρ' μ' a3
      exact ⟨m', hm, F', ρ', μ', a1, a2, w'⟩
    · exact ⟨F2, ρ1, μ2, _, R1.step e2 o2, q2, fun F4 ρ4 μ4 σ4 H4 h4 R4 q4 => ⟨F4, ρ4, μ4, hF2.trans h4, R4, q4⟩, fun F4 ρ4 μ4 σ4 H4 h4 R4 q4 => kn F4 ρ4 μ4 σ4 H4 (hF2.trans h4) R4 q4, fun F4 ρ4 μ4 σ4 H4 h4 R4 q4 => ⟨F4, ρ4, μ4, hF2.trans h4, R4, q4⟩, kr⟩
  | false => exact kn F2 ρ1 μ2 σ1 H2 (hF.trans e2.mono) (R1.step e2 o2) q2

@[simp] def wipeD (ρ : DEnv) : List Nat → DEnv
  | [] => ρ
  | v :: vs => (wipeD ρ vs).set v none
theorem wipeD_length (ρ : DEnv) : ∀ vs, (wipeD ρ vs).length = ρ.length
  | [] => rfl
  | v :: vs => by unfold wipeD; rw [List.length_set, wipeD_length ρ vs]
theorem set_none_some {α : Type} {l : List (Option α)} {v i : Nat} {x : α} (h : (l.set v none)[i]? = some (some x)) : v ≠ i ∧ l[i]? = some (some x) := by
  by_cases hv : v = i
  · subst hv
    have hl : v < l.length := by
      have := (List.getElem?_eq_some_iff.mp h).1
      rwa [List.length_set] at this
    rw [List.getElem?_set_self hl] at h
    cases h
  · rw [List.getElem?_set_ne hv] at h
    exact ⟨hv, h⟩
theorem wipeD_some {ρ : DEnv} {i : Nat} {x : DS} : ∀ {vs : List Nat}, (wipeD ρ vs)[i]? = some (some x) → ρ[i]? = some (some x) ∧ i ∉ vs
  | [], h => ⟨h, by simp⟩
  | v :: vs, h => by
    obtain ⟨h1, h2⟩ := set_none_some h
    obtain ⟨h3, h4⟩ := wipeD_some (vs := vs) h2
    refine ⟨h3, ?_⟩
    rw [List.mem_cons, not_or]
    exact ⟨fun q => h1 q.symm, h4⟩
theorem wipe_get {σ : L2.St} {i : Nat} : ∀ {vs : List Nat}, i ∉ vs → (wipe σ vs)[i]? = σ[i]?
  | [], _ => rfl
  | v :: vs, h => by
    rw [List.mem_cons, not_or] at h
    show ((wipe σ vs).set v none)[i]? = _
    rw [List.getElem?_set_ne (fun q => h.1 q.symm), wipe_get h.2]
theorem RelB.wipe {K : PySem.W.Frag} {mg : Str → Option Value} {B : Bs} {F H : Hp} {ρ : DEnv} {μ : Sto} {σ : L2.St} (r : RelB K mg B F ρ μ σ H) (vs : List Nat) : RelB K mg B F (wipeD ρ vs) μ (L2.wipe σ vs) H := by
  refine ⟨⟨r.rel.ok, by rw [wipeD_length, wipe_length]; exact r.rel.len, fun i s e => ?_, fun i j xs ys e1 e2 e3 => ?_⟩, r.ext, fun i xs a e1 e2 => ?_⟩
  · obtain ⟨e, n⟩ := wipeD_some e
    obtain ⟨v, h1, h2⟩ := r.rel.slot i s e
    exact ⟨v, by rw [wipe_get n]; exact h1, h2⟩
  · obtain ⟨e1, n1⟩ := wipeD_some e1
    obtain ⟨e2, n2⟩ := wipeD_some e2
    rw [wipe_get n1, wipe_get n2] at e3
    exact r.rel.apart i j xs ys e1 e2 e3
  · obtain ⟨e1, n1⟩ := wipeD_some e1
    rw [wipe_get n1] at e2
    exact r.new i xs a e1 e2
theorem wipe_eq {σ σ' : L2.St} {vs : List Nat} (hl : σ'.length = σ.length) (h : ∀ j, j ∉ vs → σ'[j]? = σ[j]?) : wipe σ' vs = wipe σ vs := by
  have inn : ∀ (τ : L2.St) (us : List Nat) (j : Nat), j ∈ us → j < τ.length → (wipe τ us)[j]? = some none := by
    intro τ us
    induction us with
    | nil => intro j h; cases h
    | cons u us ih =>
      intro j hj hl
      show ((wipe τ us).set u none)[j]? = _
      by_cases hu : u = j
      · subst hu
        exact List.getElem?_set_self (by rw [wipe_length]; exact hl)
      · rw [List.getElem?_set_ne hu]
        rcases List.mem_cons.mp hj with z | z
        · exact absurd z.symm hu
        · exact ih j z hl
  apply List.ext_getElem?
  intro j
  by_cases hj : j ∈ vs
  · by_cases hjl : j < σ.length
    · rw [inn σ vs j hj hjl, inn σ' vs j hj (by rw [hl]; exact hjl)]
    · rw [List.getElem?_eq_none (by rw [wipe_length]; omega), List.getElem?_eq_none (by rw [wipe_length]; omega)]
  · rw [wipe_get hj, wipe_get hj, h j hj]
structure DTs (X : Cx) (ifs : List Expr) (d : TTD) : Prop where
  run : PTs X ifs (liftT X.K X.mg d)
@[simp] def dYes : TTD := fun _ μ Q => Q true μ
theorem dts_nil : DTs X [] dYes := ⟨⟨fun pins s σ H Q I h => pts_nil.run pins s σ H Q I (by
  obtain ⟨F, ρ, μ, Qd, R, hd, k⟩ := h
  exact k true F μ H .refl R.ok hd)⟩⟩
theorem dts_one {c : Expr} {tc : TTD} (h : DT X c tc) : DTs X [c] tc := ⟨pts_one h⟩
/-- acc: what is made so far -/
@[simp] def lcD (vs : List Nat) (g : TGD) (c : TTD) (el : TED) (ρ : DEnv) (inv : Sto → Prop) (Q : List D → Sto → Prop) : List D → List D → Sto → Prop
  | [], acc, μ => inv μ ∧ Q acc μ
  | x :: xs, acc, μ => inv μ ∧ g x (wipeD ρ vs) fun ρ1 => c ρ1 μ fun b μ1 => if b = true then el ρ1 μ1 fun y μ2 => acc.length < SZ ∧ lcD vs g c el ρ inv Q xs (acc ++ [y]) μ2 else lcD vs g c el ρ inv Q xs acc μ1
@[simp] def dLc (vs : List Nat) (src : TSrc) (g : TGD) (c : TTD) (el : TED) : TFD := fun ρ μ Q => src ρ μ fun items inv μ1 => lcD vs g c el ρ inv Q items [] μ1
/-- a new list is a value -/
@[simp] def dF (d : TFD) : TED := fun ρ μ Q => d ρ μ fun xs μ1 => Q (.lst xs) μ1
theorem de_F {d : TFD} (h : DF X e d) : DE X e (dF d) := h.weaken fun σ H Q q => by
  obtain ⟨F, ρ, μ, Qd, R, hd, k⟩ := q
  refine ⟨F, ρ, μ, _, R, hd, fun p vs F' μ' H' ds e o hn hf hm hh w q => ?_⟩
  have mono : FLe F' (upd F' p (.lst vs)) := fun a x z => by rw [upd_ne (ne_of_none z hf)]; exact z
  refine k _ (upd F' p (.lst vs)) μ' H' _ ⟨fun a x z => mono a x (e.mono a x z), fun a x z n => ?_, e.live⟩ (o.freeze hf hm hh) (.lst upd_same (w.mono mono)) q
  obtain ⟨g1, g2, g3⟩ := e.keep a x z n
  have ha : a ≠ p := fun q => by subst q; rw [hn] at z; cases z
  exact ⟨g1, by rw [upd_ne ha]; exact g2, g3⟩
/-- the comprehension's reading over data gives the hand layer's -/
theorem lc_weak {K : PySem.W.Frag} {mg : Str → Option Value} {vs0 ns : List Nat} {src : TSrc} {g : TGD} {c : TTD} {el : TED} (hns : ∀ j ∈ ns, j ∈ vs0) {σ : L2.St} {H : Hp} {Q : VK} (q : liftF K mg (dLc vs0 src g c el) σ H Q) :
    tLc (liftI K mg src) (fun v σ H Q => ∃ B, liftG K mg B ns g v σ H Q) (liftT K mg c) (liftE K mg el) vs0 σ H Q := by
  obtain ⟨F, ρ, μ, Qd, R, hd, k⟩ := q
  refine ⟨F, ρ, μ, _, R, hd, fun J F0 μ0 H0 items inv e0 o0 it q0 L hL => ?_⟩
  obtain ⟨o1, e1⟩ := o0.layN hL (.lst [])
  obtain ⟨fL, mL⟩ := o0.fresh hL
  have B0 : ∀ {F' : Hp} {μ' : Sto} {H' : Hp}, Ext (fun _ => none) (fun _ => none) (fun _ => none) F' μ' H' := fun {F' μ' H'} => ⟨(fun a o z => nomatch z), (fun a o z => nomatch z), fun _ _ => rfl⟩
  have R0 : RelB K mg ⟨fun _ => none, fun _ => none, fun _ => none⟩ F0 ρ μ0 σ H0 := ⟨R.ext e0 o0, B0, fun _ _ _ _ _ => rfl⟩
  · refine ⟨fun i m H1 => ∃ F1 μ1 acc vs, m = items.length - i ∧ i ≤ items.length ∧ FLe F0 F1 ∧ Ext F0 μ0 H0 F1 μ1 H1 ∧ Ok K mg F1 μ1 H1 ∧ F1 L = none ∧ μ1 L = none ∧ H1 L = some (.lst vs) ∧ Dts K mg F1 vs acc ∧ lcD vs0 g c el ρ inv Qd (items.drop i) acc μ1,
      ⟨items.length, F0, μ0, [], [], by simp, Nat.zero_le _, .rfl', e1, o1, fL, mL, upd_same, .nil, by simpa using q0⟩, ?_⟩
    rintro i m H1 ⟨F1, μ1, acc, vs, rfl, hi', hF, x1, ok1, f1, m1, h1, w1, q1⟩
    have hinv : inv μ1 := by
      cases hz : items.drop i with
      | nil => rw [hz] at q1; exact q1.1
      | cons x xs => rw [hz] at q1; exact q1.1
    obtain ⟨hgo, hstop⟩ := it F1 μ1 H1 hF ok1 hinv i
    by_cases hlt : i < items.length
    · obtain ⟨g1, g2⟩ := hgo hlt
      refine .inr ⟨g1, fun H' => ∃ F' μ' acc vs, FLe F0 F' ∧ Ext F0 μ0 H0 F' μ' H' ∧ Ok K mg F' μ' H' ∧ F' L = none ∧ μ' L = none ∧ H' L = some (.lst vs) ∧ Dts K mg F' vs acc ∧ lcD vs0 g c el ρ inv Qd (items.drop (i + 1)) acc μ',
        fun H' ⟨F', μ', acc, vs, b1, b2, b3, b4, b5, b6, b7, b8⟩ => ⟨items.length - (i + 1), by omega, F', μ', acc, vs, rfl, hlt, b1, b2, b3, b4, b5, b6, b7, b8⟩, fun x H2 hy => ?_⟩
      obtain ⟨F2, d, e2, o2, hx, wx⟩ := g2 x H2 hy
      have hdrop : items.drop i = d :: items.drop (i + 1) := by
        have hd := List.drop_eq_getElem_cons hlt
        rw [List.getElem?_eq_getElem hlt] at hx
        cases hx
        exact hd
      rw [hdrop] at q1
      have e02 := x1.trans e2
      have Rw : RelB K mg ⟨fun _ => none, fun _ => none, fun _ => none⟩ F2 (wipeD ρ vs0) μ1 (wipe σ vs0) H2 := (R0.step e02 o2).wipe _
      refine ⟨⟨fun _ => none, fun _ => none, fun _ => none⟩, F2, _, μ1, d, _, Rw, wx, q1.2, fun ρ3 σ3 R3 l3 f3 q3 => ⟨?_, ?_⟩⟩
      · have z := wipe_eq (σ := wipe σ vs0) (σ' := σ3) (vs := vs0) l3 fun j hj => f3 j fun hn => hj (hns j hn)
        rw [z]
        exact wipe_eq (wipe_length _ _) fun j hj => wipe_get hj
      · obtain ⟨hL2, fL2, mL2⟩ := e2.keep L _ h1 m1
        refine ⟨F2, ρ3, μ1, _, R3.rel, q3, fun b F4 μ4 H4 e4 o4 q4 => ?_⟩
        obtain ⟨hL4, fL4, mL4⟩ := e4.keep L _ hL2 m1
        cases b with
        | false =>
          exact ⟨F4, μ4, acc, vs, (hF.trans e2.mono).trans e4.mono, e02.trans e4, o4, fL4.trans (fL2.trans f1), mL4, hL4, w1.mono (FLe.trans e2.mono e4.mono), q4⟩
        | true =>
          refine ⟨F4, ρ3, μ4, _, R3.rel.ext e4 o4, q4, fun y F5 μ5 H5 dy e5 o5 w5 q5 => ?_⟩
          obtain ⟨hL5, fL5, mL5⟩ := e5.keep L _ hL4 mL4
          have fn : F5 L = none := fL5.trans (fL4.trans (fL2.trans f1))
          refine ⟨vs, hL5, by rw [w1.length, sizeLine_eq]; exact q5.1, F5, μ5, _, _, ((hF.trans e2.mono).trans e4.mono).trans e5.mono, ?_, o5.writeN fn mL5 _, fn, mL5, upd_same, (w1.mono ((FLe.trans e2.mono e4.mono).trans e5.mono)).append (.one w5), q5.2⟩
          have ee := e02.trans (e4.trans e5)
          refine ⟨ee.mono, fun a o z n => ?_, fun a z => ee.live a (upd_live a z)⟩
          obtain ⟨b1, b2, b3⟩ := ee.keep a o z n
          have ha : a ≠ L := fun q => by subst q; rw [hL] at z; cases z
          exact ⟨by rw [upd_ne ha]; exact b1, b2, b3⟩
    · have : i = items.length := by omega
      subst this
      refine .inl ⟨hstop rfl, ?_⟩
      rw [List.drop_length] at q1
      exact k L vs F1 μ1 H1 acc (e0.trans x1) ok1 (e0.live L hL) f1 m1 h1 w1 q1.2

section
variable {elt iter : Expr} {ifs : List Expr} {scope : Scope} {own : List (Str × Nat)} {ns : List Nat} {src : TSrc} {g : TGD} {c : TTD} {el : TED}
theorem df_lc (hc : X.calm = true) (hN : X.N.Nodup) (hi : DI X tg iter src) (ok : BlkOk X.N X.env.scope scope own)
    (hns : ∀ j ∈ ns, j ∈ own.map (·.2))
    (hg : ∀ (s : Shared) (H : Hp) (C : Addr) (cl : List (Str × Addr)) (fp : List Addr) (B : Bs), DG (X.blk s H scope (compEnvC scope cl C X.env) fp) B tg ns g) (ht : ∀ (s : Shared) (H : Hp) (C : Addr) (cl : List (Str × Addr)) (fp : List Addr), DTs (X.blk s H scope (compEnvC scope cl C X.env) fp) ifs c)
    (he : ∀ (s : Shared) (H : Hp) (C : Addr) (cl : List (Str × Addr)) (fp : List Addr), DE (X.blk s H scope (compEnvC scope cl C X.env) fp) elt el) (hs : ∀ x, foldedSetIterable iter X.env x = pure x := by intro _; rfl) :
    DF X (.ListComp elt [⟨tg, iter, ifs, 0⟩] scope pos) (dLc (own.map (·.2)) src g c el) :=
  (pe_lc (g := fun v σ H Q => ∃ B, liftG X.K X.mg B ns g v σ H Q) (tt := liftT X.K X.mg c) (te := liftE X.K X.mg el) hc hN hi ok (fun s H C cl fp => ⟨fun pins s' σ H' v u Q I r ⟨B, q⟩ => (hg s H C cl fp B).run pins s' σ H' v u Q I r q⟩)
    (fun s H C cl fp => (ht s H C cl fp).run) he hs).weaken fun _ _ _ q => lc_weak hns q
/-- a result: a value, or a new list that nobody knows -/
abbrev TRD := DEnv → Sto → (DS → Sto → Prop) → Prop
@[simp] def dVal (d : TED) : TRD := fun ρ μ Q => d ρ μ fun x μ1 => Q (.val x) μ1
@[simp] def dOwn (d : TFD) : TRD := fun ρ μ Q => d ρ μ fun xs μ1 => Q (.own xs) μ1
/-- .. as it lies in the heap; it is not known ahead -/
def ROk (K : PySem.W.Frag) (mg : Str → Option Value) (H F' : Hp) (μ' : Sto) (H' : Hp) (v : V) : DS → Prop
  | .val d => Dt K mg F' v d
  | .own xs => ∃ p vs, v = .ref p ∧ H p = none ∧ F' p = none ∧ μ' p = none ∧ H' p = some (.lst vs) ∧ Dts K mg F' vs xs
def liftR (K : PySem.W.Frag) (mg : Str → Option Value) (d : TRD) : TE := fun σ H Q => ∃ F ρ μ Qd, Rel K mg F ρ μ σ H ∧ d ρ μ Qd ∧ ∀ v F' μ' H' s, Ext F μ H F' μ' H' → Ok K mg F' μ' H' → ROk K mg H F' μ' H' v s → Qd s μ' → Q v H'
abbrev DR (X : Cx) (e : Expr) (d : TRD) : Prop := PE X e (liftR X.K X.mg d)
theorem dr_E {d : TED} (h : DE X e d) : DR X e (dVal d) := h.weaken fun σ H Q q => by
  obtain ⟨F, ρ, μ, Qd, R, hd, k⟩ := q
  exact ⟨F, ρ, μ, _, R, hd, fun v F' μ' H' dv e o w q => k v F' μ' H' (.val dv) e o w q⟩
theorem dr_F {d : TFD} (h : DF X e d) : DR X e (dOwn d) := h.weaken fun σ H Q q => by
  obtain ⟨F, ρ, μ, Qd, R, hd, k⟩ := q
  exact ⟨F, ρ, μ, _, R, hd, fun p vs F' μ' H' ds e o h1 h2 h3 h4 h5 q => k _ F' μ' H' (.own ds) e o ⟨p, vs, rfl, h1, h2, h3, h4, h5⟩ q⟩
/-- a result is stored -/
theorem RelB.setR {K : PySem.W.Frag} {mg : Str → Option Value} {B : Bs} {F F' H H' : Hp} {μ μ' : Sto} {ρ : DEnv} {σ : L2.St} {i : Nat} {v : V} {s : DS} (R : RelB K mg B F ρ μ σ H) (R' : RelB K mg B F' ρ μ' σ H') (h : ROk K mg H F' μ' H' v s) :
    RelB K mg B F' (ρ.set i (some s)) μ' (σ.set i (some v)) H' := by
  cases s with
  | val d => exact R'.set h
  | own xs =>
    obtain ⟨p, vs, rfl, h1, h2, h3, h4, h5⟩ := h
    refine R'.setOwn h2 h3 h4 h5 (R.ext.live p h1) fun j ys hj e1 e2 => ?_
    obtain ⟨v, g1, a, us, rfl, g2, g3, g4, g5⟩ := R.rel.slot j _ e1
    rw [g1] at e2
    cases e2
    rw [h1] at g4
    cases g4
@[simp] def dSetR (i : Nat) (d : TRD) : TSD := fun E ρ μ => d ρ μ fun s μ1 => E.nx (ρ.set i (some s)) μ1
theorem ds_setR {B : Bs} {i : Nat} {x : Str} {d : TRD} (h : ∀ te, PE X e te → PS X (.Assign [.Name x p] e pos) (tAsg te (gName i))) (he : DR X e d) : DSt X B (.Assign [.Name x p] e pos) (dSetR i d) := (h _ he).weaken fun D σ H h => by
  obtain ⟨F, ρ, μ, Dd, R, hd, kn, kb, kc, kr⟩ := h
  exact ⟨F, ρ, μ, _, R.rel, hd, fun v F' μ' H' s e o w q => kn F' _ μ' _ H' e.mono (R.setR (R.step e o) w) q⟩
/-- x = [..], on one line, x no cell -/
theorem ds_setLc {B : Bs} {i : Nat} {y : Str} {py spos : Pos} (hc : X.calm = true) (hN : X.N.Nodup) (hy : X.N[i]? = some y) (hyl : X.env.scope.names.lookup y = some .local)
    (hsw : swapsWith (.ListComp elt [⟨tg, iter, ifs, 0⟩] scope pos) (some (.Name y py)) spos.line X.env = pure true) (hi : DI X tg iter src) (ok : BlkOk X.N X.env.scope scope own) (hns : ∀ j ∈ ns, j ∈ own.map (·.2))
    (hg : ∀ (s : Shared) (H : Hp) (C : Addr) (cl : List (Str × Addr)) (fp : List Addr) (B : Bs), DG (X.blk s H scope (compEnvC scope cl C X.env) fp) B tg ns g) (ht : ∀ (s : Shared) (H : Hp) (C : Addr) (cl : List (Str × Addr)) (fp : List Addr), DTs (X.blk s H scope (compEnvC scope cl C X.env) fp) ifs c)
    (he : ∀ (s : Shared) (H : Hp) (C : Addr) (cl : List (Str × Addr)) (fp : List Addr), DE (X.blk s H scope (compEnvC scope cl C X.env) fp) elt el) (hs : ∀ x, foldedSetIterable iter X.env x = pure x := by intro _; rfl)
    {rd : TRD} (hr : ∀ K mg σ H Q, liftR K mg rd σ H Q → liftF K mg (dLc (own.map (·.2)) src g c el) σ H Q) :
    DSt X B (.Assign [.Name y py] (.ListComp elt [⟨tg, iter, ifs, 0⟩] scope pos) spos) (dSetR i rd) :=
  (ps_setLc (g := fun v σ H Q => ∃ B, liftG X.K X.mg B ns g v σ H Q) (tt := liftT X.K X.mg c) (te := liftE X.K X.mg el) hc hN hy hyl hsw hi ok (fun s H C cl fp => ⟨fun pins s' σ H' v u Q I r ⟨B, q⟩ => (hg s H C cl fp B).run pins s' σ H' v u Q I r q⟩)
    (fun s H C cl fp => (ht s H C cl fp).run) he hs).weaken fun D σ H h => by
  obtain ⟨F, ρ, μ, Dd, R, hd, kn, kb, kc, kr⟩ := h
  refine lc_weak hns (hr _ _ _ _ _ ⟨F, ρ, μ, _, R.rel, hd, fun v F' μ' H' s e o w q => ?_⟩)
  exact kn F' _ μ' _ H' e.mono (R.setR (R.step e o) w) q
theorem lr_val {K : PySem.W.Frag} {mg : Str → Option Value} {d : TFD} {σ : L2.St} {H : Hp} {Q : VK} (q : liftR K mg (dVal (dF d)) σ H Q) : liftF K mg d σ H Q := by
  obtain ⟨F, ρ, μ, Qd, R, hd, k⟩ := q
  refine ⟨F, ρ, μ, _, R, hd, fun p vs F' μ' H' ds e o hn hf hm hh w q => ?_⟩
  have mono : FLe F' (upd F' p (.lst vs)) := fun a x z => by rw [upd_ne (ne_of_none z hf)]; exact z
  refine k _ (upd F' p (.lst vs)) μ' H' (.val (.lst ds)) ⟨fun a x z => mono a x (e.mono a x z), fun a x z n => ?_, e.live⟩ (o.freeze hf hm hh) (.lst upd_same (w.mono mono)) q
  obtain ⟨g1, g2, g3⟩ := e.keep a x z n
  have ha : a ≠ p := fun q => by subst q; rw [hn] at z; cases z
  exact ⟨g1, by rw [upd_ne ha]; exact g2, g3⟩
/-- x, y = a, b -/
@[simp] def dPar2 (i j : Nat) (a b : TRD) : TSD := fun E ρ μ => a ρ μ fun s μ1 => b ρ μ1 fun t μ2 => E.nx ((ρ.set i (some s)).set j (some t)) μ2
theorem ROk.ext {K : PySem.W.Frag} {mg : Str → Option Value} {H F H1 F2 H2 : Hp} {μ μ2 : Sto} {v : V} {s : DS} (h : ROk K mg H F μ H1 v s) (e : Ext F μ H1 F2 μ2 H2) : ROk K mg H F2 μ2 H2 v s := by
  cases s with
  | val d => exact Dt.mono e.mono h
  | own xs =>
    obtain ⟨p, vs, rfl, h1, h2, h3, h4, h5⟩ := h
    obtain ⟨g1, g2, g3⟩ := e.keep p _ h4 h3
    exact ⟨p, vs, rfl, h1, g2.trans h2, g3, g1, h5.mono e.mono⟩
end
end
end DL

namespace DL
open PySem PySem.Spec PyProof.Rows L2

/-- no repr of a list, tuple or dict runs around -/
abbrev Quiet (A : Around) : Prop := A.guards = some []
/-- a def's promise, where no repr runs around -/
structure FnG (P : Program) (w : World) (K : PySem.W.Frag) (mg : Str → Option Value) (base : Heap) (CX : CXT) (k : Nat) (f : Addr) (fd : FuncData) (ps : List Str) (sp : Sp) : Prop where
  len : ∀ vs H Q E, sp vs H Q E → vs.length = ps.length
  run : ∀ (A : Around) (outer : List Env) (s : Shared) (H : Hp) (args : Args) (us : List Value) (vs : List V) (Q : VK) (E : XK), Quiet A → Room k A → Env0 P w K mg base A outer s H →
    BindsTo s fd args (ps.zip us) → Vals vs us → sp vs H Q E → codeAny (model P w) A (.call (.ref f) args) (CR CX outer P w H s Q E) s
section
variable {P : Program} {w : World} {K : PySem.W.Frag} {mg : Str → Option Value} {base : Heap} {CX : CXT} {j k : Nat} {f : Addr} {fd : FuncData} {ps : List Str} {sp : Sp}
theorem FnG.mono (F : FnG P w K mg base CX j f fd ps sp) (h : j ≤ k) : FnG P w K mg base CX k f fd ps sp where
  len := F.len
  run := fun A outer s H args us vs Q E g r => F.run A outer s H args us vs Q E g (r.mono h)
theorem FnG.of {name qual : Str} {st : Stmt} {N : List Str} (D : Fun K name qual st f fd) (S : FnScope N ps (defScope st)) (len : ∀ vs H Q E, sp vs H Q E → vs.length = ps.length)
    (body : ∀ (cdv : Value) (A : Around) (outer : List Env) (s : Shared) (H : Hp) (vs : List V) (Q : VK) (E : XK), Quiet (A.deeper (envOfC qual (defScope st) s.heap.objs.size f cdv)) → Room k (A.deeper (envOfC qual (defScope st) s.heap.objs.size f cdv)) →
      sp vs H Q E → ∃ t, PSs (cxOf CX P w K mg base N qual (defScope st) f cdv A outer s H E) (defBody st) t ∧ t { nx := fun _ H' => Q .non H', rt := Q } (L2.start N vs) H) :
    FnG P w K mg base CX (k + 1) f fd ps sp := by
  obtain ⟨oc, od, kV, doc, pm, an, cdv, ct, osl, rfl, hk, hcode⟩ := D.ex
  refine ⟨len, ?_⟩
  intro A outer s H args us vs Q E quiet room env bind rel hsp
  have n := len _ _ _ _ hsp
  have kin : K.In s.heap := env.mod.kin.keeps (fun b o z => (env.bs b o z).1)
  have free : s.heap.NoLimit := env.mod.nolimit.keeps (fun b o z => (env.bs b o z).1)
  refine codeAny_call_function room.depth (kin _ _ hk) rfl S.co S.gen rfl (PySem.W.codeRec_of kin hcode) (bind _ _ _ _ ?_)
  have loc : ∀ y ∈ ps.zip us, (defScope st).names.lookup y.1 = some .local ∨ ((defScope st).names.lookup y.1 = some .cell ∧ ((cellsFrom (s.heap.objs.size + 1) (defScope st).names []).lookup y.1).isSome = true) := by
    intro y hy
    rcases S.par y.1 (List.of_mem_zip hy).1 with q | q
    · exact Or.inl q
    · exact Or.inr ⟨q, PySem.W.cellsFrom_some _ _ _ (Or.inl q)⟩
  refine wpAny_newFunctionEnv_cells S.kind loc ?_
  intro env' he s1 x
  subst he
  refine ⟨free.keeps x.toInCall.keep, codeAny_func ?_⟩
  obtain ⟨t, ht, hq⟩ := body cdv A outer s H vs Q E quiet (room.deeper _) hsp
  have I := inv_start (CX := CX) (E := E) S room.hd env n rel x
  refine wpAny_mono (ht.run [] s1 _ H _ I hq) ?_ (fun _ _ z => z)
  intro fl s' hs
  match fl, hs with
  | .ret u, ⟨v, σ', H', J, rv, q⟩ => exact ⟨v, H', J.os, J.bare, J.base, J.hok, rv, q⟩
  | .next, ⟨σ', H', J, q⟩ => exact ⟨V.non, H', J.os, J.bare, J.base, J.hok, rfl, q⟩
  | .brk, ⟨_, _, _, q⟩ => exact q.elim
  | .cont, ⟨_, _, _, q⟩ => exact q.elim
end

/-- an exception over data: its class, its fields -/
abbrev DXK := Str → List (Str × D) → Sto → Prop
abbrev DSp := List D → Sto → DK → DXK → Prop
/-- an exception of a class of the module, as the hand layer tells it -/
def XD (K : PySem.W.Frag) (mg : Str → Option Value) (H0 : Hp) (F : Hp) (μ : Sto) (H : Hp) (cv : Value) (od : Option Addr) (c : Str) (fs : List (Str × D)) : Prop :=
  ∃ C, cv = .ref C ∧ mg c = some (.ref C) ∧ ((od = none ∧ fs = []) ∨ ∃ d vfs, od = some d ∧ fs ≠ [] ∧ H0 d = none ∧ F d = none ∧ μ d = none ∧ H d = some (.xd vfs) ∧ vfs.map (·.1) = fs.map (·.1) ∧ Dts K mg F (vfs.map (·.2)) (fs.map (·.2)))
def liftP (K : PySem.W.Frag) (mg : Str → Option Value) (S : DSp) : Sp := fun vs H Q E => ∃ F μ ds Qd Ed, Ok K mg F μ H ∧ Dts K mg F vs ds ∧ S ds μ Qd Ed ∧
  (∀ v F' μ' H' dv, Ext F μ H F' μ' H' → Ok K mg F' μ' H' → Dt K mg F' v dv → Qd dv μ' → Q v H') ∧
  (∀ cv od F' μ' H' c fs, Ext F μ H F' μ' H' → Ok K mg F' μ' H' → XD K mg H F' μ' H' cv od c fs → Ed c fs μ' → E cv od H')
abbrev noD : DXK := fun _ _ _ => False
/-- a call by position, where no repr runs around -/
def FR (P : Program) (w : World) (K : PySem.W.Frag) (mg : Str → Option Value) (base : Heap) (CX : CXT) (k : Nat) (f : Addr) (sp : Sp) : Prop :=
  ∀ (A : Around) (outer : List Env) (s : Shared) (H : Hp) (us : List Value) (vs : List V) (Q : VK) (E : XK), Quiet A → Room k A → Env0 P w K mg base A outer s H → Vals vs us → sp vs H Q E → codeAny (model P w) A (.call (.ref f) ⟨us, []⟩) (CR CX outer P w H s Q E) s
theorem FnG.toR {P : Program} {w : World} {K : PySem.W.Frag} {mg : Str → Option Value} {base : Heap} {CX : CXT} {k : Nat} {f : Addr} {fd : FuncData} {ps : List Str} {sp : Sp} (F : FnG P w K mg base CX k f fd ps sp) (hb : Binds K fd ps []) : FR P w K mg base CX k f sp := by
  intro A outer s H us vs Q E quiet room env r h
  have kin : K.In s.heap := env.mod.kin.keeps (fun b o z => (env.bs b o z).1)
  have n : (us ++ []).length = ps.length := by rw [List.append_nil, ← r.length]; exact F.len _ _ _ _ h
  have b := hb s us kin n
  rw [List.append_nil] at b
  exact F.run A outer s H ⟨us, []⟩ us vs Q E quiet room env b r h
/-- the def x of the module keeps the promise S, by at most level k -/
structure Cal (P : Program) (w : World) (K : PySem.W.Frag) (mg : Str → Option Value) (base : Heap) (CX : CXT) (k : Nat) (x : Str) (S : DSp) : Prop where
  ex : ∃ f, FR P w K mg base CX k f (liftP K mg S) ∧ mg x = some (.ref f) ∧ PySem.W.keepIn K (.ref f) = true
theorem Cal.mono {P : Program} {w : World} {K : PySem.W.Frag} {mg : Str → Option Value} {base : Heap} {CX : CXT} {j k : Nat} {x : Str} {S : DSp} (c : Cal P w K mg base CX j x S) (h : j ≤ k) : Cal P w K mg base CX k x S := by
  obtain ⟨f, F, r⟩ := c.ex
  exact ⟨f, fun A outer s H us vs Q E q rm => F A outer s H us vs Q E q (rm.mono h), r⟩
theorem Cal.imp {P : Program} {w : World} {K : PySem.W.Frag} {mg : Str → Option Value} {base : Heap} {CX : CXT} {k : Nat} {x : Str} {S S' : DSp} (c : Cal P w K mg base CX k x S) (h : ∀ ds μ Q E, S' ds μ Q E → S ds μ Q E) : Cal P w K mg base CX k x S' := by
  obtain ⟨f, F, r⟩ := c.ex
  have go : ∀ vs H Q E, liftP K mg S' vs H Q E → liftP K mg S vs H Q E := fun vs H Q E ⟨F, μ, ds, Qd, Ed, h1, h2, h3, h4⟩ => ⟨F, μ, ds, Qd, Ed, h1, h2, h _ _ _ _ h3, h4⟩
  exact ⟨f, fun A outer s H us vs Q E q rm e v z => F A outer s H us vs Q E q rm e v (go _ _ _ _ z), r⟩
/-- the slots at the entry -/
@[simp] def startD (n : Nat) (ds : List D) : DEnv := ds.map (fun d => some (.val d)) ++ List.replicate (n - ds.length) none
theorem start_rel {K : PySem.W.Frag} {mg : Str → Option Value} {F H : Hp} {μ : Sto} {vs : List V} {ds : List D} {N : List Str} (o : Ok K mg F μ H) (r : Dts K mg F vs ds) : RelB K mg ⟨F, μ, H⟩ F (startD N.length ds) μ (L2.start N vs) H := by
  have noOwn : ∀ (i : Nat) (xs : List D), (startD N.length ds)[i]? ≠ some (some (DS.own xs)) := fun i xs e => by
    unfold startD at e
    by_cases hi : i < ds.length
    · rw [List.getElem?_append_left (by simpa using hi), List.getElem?_map] at e
      cases z : ds[i]? with
      | none => rw [z] at e; cases e
      | some d => rw [z] at e; cases e
    · rw [List.getElem?_append_right (by simpa using hi), List.getElem?_replicate] at e
      split at e <;> cases e
  refine ⟨⟨o, ?_, fun i s e => ?_, fun i j xs ys e1 _ _ => absurd e1 (noOwn i xs)⟩, .refl, fun i xs a e _ => absurd e (noOwn i xs)⟩
  · unfold startD L2.start
    rw [List.length_append, List.length_append, List.length_map, List.length_map, List.length_replicate, List.length_replicate, r.length]
  · unfold startD at e
    by_cases hi : i < ds.length
    · rw [List.getElem?_append_left (by simpa using hi), List.getElem?_map] at e
      cases z : ds[i]? with
      | none => rw [z] at e; cases e
      | some d =>
        rw [z] at e; cases e
        obtain ⟨v, h1, h2⟩ := r.get z
        refine ⟨v, ?_, h2⟩
        unfold L2.start
        rw [List.getElem?_append_left (by rw [List.length_map, r.length]; exact hi), List.getElem?_map, h1]
        rfl
    · rw [List.getElem?_append_right (by simpa using hi), List.getElem?_replicate] at e
      split at e <;> cases e
section
variable {P : Program} {w : World} {K : PySem.W.Frag} {mg : Str → Option Value} {base : Heap} {k n : Nat} {f : Addr} {fd : FuncData} {ps : List Str} {S : DSp}
/-- a def that raises nothing, by its body over data -/
theorem FnG.ofD {name qual : Str} {st : Stmt} {N : List Str} (D : Fun K name qual st f fd) (Sc : FnScope N ps (defScope st)) (len : ∀ ds μ Q E, S ds μ Q E → ds.length = ps.length) (d : TSD)
    (hd : ∀ ds μ Q E, S ds μ Q E → d { nx := fun _ μ' => Q .non μ', rt := Q } (startD N.length ds) μ)
    (body : ∀ (cdv : Value) (A : Around) (outer : List Env) (s : Shared) (H : Hp) (E : XK) (B : Bs), Quiet (A.deeper (envOfC qual (defScope st) s.heap.objs.size f cdv)) → Room k (A.deeper (envOfC qual (defScope st) s.heap.objs.size f cdv)) →
      DSs (cxOf L2.CX0 P w K mg base N qual (defScope st) f cdv A outer s H E).nox B (defBody st) d) : FnG P w K mg base L2.CX0 (k + 1) f fd ps (liftP K mg S) := by
  refine FnG.of D Sc ?_ ?_
  · rintro vs H Q E ⟨F, μ, ds, Qd, Ed, _, h2, h3, _⟩
    exact h2.length.trans (len _ _ _ _ h3)
  · rintro cdv A outer s H vs Q E quiet room ⟨F, μ, ds, Qd, Ed, h1, h2, h3, h4, h5⟩
    refine ⟨_, PSs.nox (body cdv A outer s H E ⟨F, μ, H⟩ quiet room), ?_⟩
    refine ⟨F, startD N.length ds, μ, { nx := fun _ μ' => Qd .non μ', rt := Qd }, start_rel h1 h2, hd _ _ _ _ h3, ?_, fun _ _ _ _ _ _ _ z => z.elim, fun _ _ _ _ _ _ _ z => z.elim, ?_⟩
    · exact fun F' ρ' μ' σ' H' _ R q => h4 .non F' μ' H' .non R.ext R.rel.ok .non q
    · exact h4
theorem Cal.of {x : Str} (F : FnG P w K mg base L2.CX0 k f fd ps (liftP K mg S)) (hx : mg x = some (.ref f)) (hk : PySem.W.keepIn K (.ref f) = true) (hb : Binds K fd ps []) : Cal P w K mg base L2.CX0 k x S := ⟨f, F.toR hb, hx, hk⟩
end
section
variable {X : Cx} {k : Nat} {x : Str} {S : DSp} {e : Expr} {es : List Expr} {t : TAD} {p pos : Pos} {CX : CXT}
@[simp] def dCall (S : DSp) (t : TAD) (E : DXK) : TED := fun ρ μ Q => t ρ μ fun ds μ1 => S ds μ1 Q E
/-- the callee runs -/
theorem run_g {f : Addr} {sp : Sp} {E : XK} {pins : List (Addr × Obj)} {σ : L2.St} {H : Hp} {s : Shared} {Q : VK} {us : List Value} {vs : List V} (F : FR X.prog X.w X.K X.mg X.base CX k f sp) (quiet : Quiet X.A) (room : Room k X.A)
    (hx : Passes CX X E) (I : Inv X pins σ H s) (r : Vals vs us) (h : sp vs H Q E) : wpAny (model X.prog X.w) X.A (call (.ref f) us) (EP X pins σ Q) X.xe s := by
  refine wpAny_call (codeAny_mono (F X.A X.stack s H us vs Q E quiet room I.env0 r h) ?_)
  intro z s' hz
  match z, hz with
  | .error e, hz => exact hx pins σ H s e s' I hz
  | .ok (.ret u), hz => exact I.after hz
theorem de_call (c : Cal X.prog X.w X.K X.mg X.base L2.CX0 k x S) (quiet : Quiet X.A) (room : Room k X.A) (hg : Gl X x) (ha : DA X (e :: es) t) (hdb : (x == ("__debug__" : Str)) = false := by decide)
    (he : starEach (e :: es) X.env = (false, eval e X.env) :: starEach es X.env := by rfl) (hpl : (backTo pos (starEach es X.env)).any (·.1) = false := by rfl) : DE X (.Call (.Name x p) (e :: es) [] pos) (dCall S t noD) := by
  obtain ⟨f, F, hm, hk⟩ := c.ex
  refine ⟨fun pins s σ H Q I h => ?_⟩
  obtain ⟨F0, ρ, μ, Qd, R, hd, kk⟩ := h
  refine wpAny_Call_Name_kw (ld_glob I hg hm ?_ hdb)
  refine PySem.W.callWith_K (h₀ := X.base) I.ok.mod.kin hk (thn (ha.run pos pins s σ H (fun vs H1 => liftP X.K X.mg S vs H1 Q L2.E0) I ⟨F0, ρ, μ, _, R, hd, fun vs F1 μ1 H1 ds e1 o1 w1 q1 => ?_⟩) fun us s1 ⟨vs, H1, I1, r, q⟩ => ⟨I1.kIn, ?_⟩) he hpl
  · exact ⟨F1, μ1, ds, Qd, noD, o1, w1, q1, fun v F' μ' H' dv e o w q => kk v F' μ' H' dv (e1.trans e) o w q, fun _ _ _ _ _ _ _ _ _ _ z => z.elim⟩
  · exact run_g F quiet room L2.pass0 I1 r q
end
end DL

namespace DL
open PySem PySem.Spec PyProof.Rows L2
abbrev RDn := List D → Sto → DK → Prop
def CallS (K : PySem.W.Frag) (mg : Str → Option Value) (r : List V → Hp → VK → Prop) (rd : RDn) : Prop :=
  ∀ (F : Hp) (μ : Sto) (H : Hp) (vs : List V) (ds : List D) (Qd : DK) (Q : VK), Ok K mg F μ H → Wks K mg F μ H vs ds → rd ds μ Qd →
    (∀ v F' μ' H' dv, Ext F μ H F' μ' H' → Ok K mg F' μ' H' → Dt K mg F' v dv → Qd dv μ' → Q v H') → r vs H Q
@[simp] def dFn (rd : RDn) (t : TAD) : TED := fun ρ μ Q => t ρ μ fun ds μ1 => rd ds μ1 Q
section
variable {X : Cx} {x : Str} {p pos : Pos} {e : Expr} {es : List Expr} {t : TAD} {id T : String} {r : List V → Hp → VK → Prop} {rd : RDn}
theorem lift_fn {K : PySem.W.Frag} {mg : Str → Option Value} (hs : CallS K mg r rd) {σ : L2.St} {H : Hp} {Q : VK} (h : liftE K mg (dFn rd t) σ H Q) : tCB r (liftAW K mg t) σ H Q := by
  obtain ⟨F, ρ, μ, Qd, R, hd, k⟩ := h
  exact ⟨F, ρ, μ, _, R, hd, fun vs F1 μ1 H1 ds e1 o1 w1 q1 => hs F1 μ1 H1 vs ds Qd Q o1 w1 q1 fun v F2 μ2 H2 dv e2 o2 w2 q2 => k v F2 μ2 H2 dv (e1.trans e2) o2 w2 q2⟩
theorem de_fnB (hc : CallR X (.builtin id) r) (hs : CallS X.K X.mg r rd) (hg : Gl X x) (hm : X.mg x = none) (hv : bootBuiltins x = some (.builtin id)) (ha : DAW X (e :: es) t) (hn : x ≠ "__name__" := by decide) (hdb : (x == ("__debug__" : Str)) = false := by decide)
    (he : starEach (e :: es) X.env = (false, eval e X.env) :: starEach es X.env := by rfl) (hpl : (backTo pos (starEach es X.env)).any (·.1) = false := by rfl) : DE X (.Call (.Name x p) (e :: es) [] pos) (dFn rd t) :=
  (pe_callB hc hg hm hv ha hn hdb he hpl).weaken fun _ _ _ q => lift_fn hs q
end
section
variable {K : PySem.W.Frag} {mg : Str → Option Value} {F H : Hp} {μ : Sto}
theorem Wks.one {vs : List V} {d : D} (h : Wks K mg F μ H vs [d]) : ∃ v, vs = [v] ∧ Wk K mg F μ H v d := by
  cases h with
  | cons a b => cases b; exact ⟨_, rfl, a⟩
theorem Wks.two {vs : List V} {d e : D} (h : Wks K mg F μ H vs [d, e]) : ∃ v w, vs = [v, w] ∧ Wk K mg F μ H v d ∧ Wk K mg F μ H w e := by
  cases h with
  | cons a b =>
    obtain ⟨w, rfl, c⟩ := b.one
    exact ⟨_, _, rfl, a, c⟩
def refLst (μ : Sto) (a : Addr) : Option (List D) := match μ a with
  | some (.lst xs) => some xs
  | _ => none
theorem refLst_some {a : Addr} {xs : List D} (h : refLst μ a = some xs) : μ a = some (.lst xs) := by
  unfold refLst at h
  split at h
  · rename_i ys hy
    cases h
    exact hy
  · cases h
/-- a list that is read: as a value, the frame's own, the script, one that changes -/
@[simp] def lstOf (μ : Sto) : D → Option (List D)
  | .lst xs => some xs
  | .scr ns => some (ns.map D.int)
  | .ref a => refLst μ a
  | _ => none
/-- .. or a tuple -/
@[simp] def seqOf (μ : Sto) : D → Option (List D)
  | .tup xs => some xs
  | d => lstOf μ d
theorem Wk.list (o : Ok K mg F μ H) {v : V} {d : D} {xs : List D} (h : Wk K mg F μ H v d) (q : lstOf μ d = some xs) : ∃ a vs, v = .ref a ∧ SqL K H a vs ∧ Dts K mg F vs xs := by
  cases d <;> first | cases q; done | skip
  · cases q
    obtain ⟨a, vs, rfl, ha, r⟩ := h.lst o
    exact ⟨a, vs, rfl, .inl (.inl ha), r⟩
  · cases q
    obtain ⟨a, rfl, ha⟩ := h.scr o
    exact ⟨a, _, rfl, ha, Dts.ofInts _⟩
  · have q' := refLst_some q
    cases h.ref
    obtain ⟨vs, ha, r⟩ := o.sto _ _ q'
    exact ⟨_, vs, rfl, .inl (.inl ha), r⟩
theorem Wk.seq (o : Ok K mg F μ H) {v : V} {d : D} {xs : List D} (h : Wk K mg F μ H v d) (q : seqOf μ d = some xs) : ∃ a vs, v = .ref a ∧ (SqL K H a vs ∨ SqT K H a vs) ∧ Dts K mg F vs xs := by
  have other : ∀ q' : lstOf μ d = some xs, ∃ a vs, v = .ref a ∧ (SqL K H a vs ∨ SqT K H a vs) ∧ Dts K mg F vs xs := fun q' => by
    obtain ⟨a, vs, e, ha, r⟩ := h.list o q'
    exact ⟨a, vs, e, .inl ha, r⟩
  cases d with
  | tup ys =>
    cases q
    obtain ⟨a, vs, rfl, ha, _, r⟩ := h.tup o
    exact ⟨a, vs, rfl, .inr ha, r⟩
  | _ => exact other q

def rdLen : RDn
  | [.str s], μ, Q => s.length ≤ SZ ∧ Q (.int s.length) μ
  | [d], μ, Q => ∃ xs, seqOf μ d = some xs ∧ Q (.int xs.length) μ
  | _, _, _ => False
@[simp] theorem rdLen_1 : rdLen  [.str s0] μ0 Q0 = (s0.length ≤ SZ ∧ Q0 (.int s0.length) μ0) := rfl
@[simp] theorem rdLen_2 : rdLen  [.tup zs0] μ0 Q0 = (∃ xs, seqOf μ0 (.tup zs0) = some xs ∧ Q0 (.int xs.length) μ0) := rfl
@[simp] theorem rdLen_3 : rdLen  [.lst zs0] μ0 Q0 = (∃ xs, seqOf μ0 (.lst zs0) = some xs ∧ Q0 (.int xs.length) μ0) := rfl
@[simp] theorem rdLen_4 : rdLen  [.scr zs0] μ0 Q0 = (∃ xs, seqOf μ0 (.scr zs0) = some xs ∧ Q0 (.int xs.length) μ0) := rfl
@[simp] theorem rdLen_5 : rdLen  [.ref za0] μ0 Q0 = (∃ xs, seqOf μ0 (.ref za0) = some xs ∧ Q0 (.int xs.length) μ0) := rfl
def rLenA (K : PySem.W.Frag) : List V → Hp → VK → Prop := fun xs H Q => (∃ p ys, xs = [.ref p] ∧ (SqL K H p ys ∨ SqT K H p ys) ∧ Q (.int ys.length) H) ∨ (∃ z, xs = [.str z] ∧ z.length ≤ sizeLine ∧ Q (.int z.length) H)
theorem call_lenA {X : Cx} : CallR X (.builtin "len") (rLenA X.K) := .or call_len_seq call_len_str
theorem cs_len : CallS K mg (rLenA K) rdLen := by
  intro F μ H vs ds Qd Q o w h k
  unfold rdLen at h
  split at h
  · obtain ⟨v, rfl, wk⟩ := w.one
    refine .inr ⟨_, by rw [wk.str], by rw [S_len, sizeLine_eq]; exact h.1, ?_⟩
    rw [S_len]
    exact fin0 o k (.int _) h.2
  · obtain ⟨v, rfl, wk⟩ := w.one
    obtain ⟨xs, hx, h⟩ := h
    obtain ⟨a, us, rfl, ha, r⟩ := wk.seq o hx
    refine .inl ⟨a, us, rfl, ha, ?_⟩
    rw [r.length]
    exact fin0 o k (.int _) h
  · exact h.elim
def rdAbs : RDn
  | [.int i], μ, Q => Q (.int (if i < 0 then -i else i)) μ
  | _, _, _ => False
@[simp] theorem rdAbs_1 : rdAbs  [.int i0] μ0 Q0 = (Q0 (.int (if i0 < 0 then -i0 else i0)) μ0) := rfl
theorem cs_abs : CallS K mg (fun xs H Q => ∃ i, xs = [.int i] ∧ Q (.int (if i < 0 then -i else i)) H) rdAbs := by
  intro F μ H vs ds Qd Q o w h k
  unfold rdAbs at h
  split at h
  · obtain ⟨v, rfl, wk⟩ := w.one
    exact ⟨_, by rw [wk.int], fin0 o k (.int _) h⟩
  · exact h.elim
def rdInt : RDn
  | [.int i], μ, Q => Q (.int i) μ
  | [.bl k], μ, Q => Q (.int (if k then 1 else 0)) μ
  | _, _, _ => False
@[simp] theorem rdInt_1 : rdInt  [.int i0] μ0 Q0 = (Q0 (.int i0) μ0) := rfl
@[simp] theorem rdInt_2 : rdInt  [.bl k0] μ0 Q0 = (Q0 (.int (if k0 then 1 else 0)) μ0) := rfl
def rdTuple : RDn
  | [.tup xs], μ, Q => Q (.tup xs) μ
  | [d], μ, Q => ∃ xs, lstOf μ d = some xs ∧ Q (.tup xs) μ
  | _, _, _ => False
@[simp] theorem rdTuple_1 : rdTuple  [.tup xs0] μ0 Q0 = (Q0 (.tup xs0) μ0) := rfl
@[simp] theorem rdTuple_2 : rdTuple  [.lst zs0] μ0 Q0 = (∃ xs, lstOf μ0 (.lst zs0) = some xs ∧ Q0 (.tup xs) μ0) := rfl
@[simp] theorem rdTuple_3 : rdTuple  [.scr zs0] μ0 Q0 = (∃ xs, lstOf μ0 (.scr zs0) = some xs ∧ Q0 (.tup xs) μ0) := rfl
@[simp] theorem rdTuple_4 : rdTuple  [.ref za0] μ0 Q0 = (∃ xs, lstOf μ0 (.ref za0) = some xs ∧ Q0 (.tup xs) μ0) := rfl
def rdList : RDn
  | [d], μ, Q => ∃ xs, seqOf μ d = some xs ∧ Q (.lst xs) μ
  | _, _, _ => False
@[simp] theorem rdList_1 : rdList  [.tup zs0] μ0 Q0 = (∃ xs, seqOf μ0 (.tup zs0) = some xs ∧ Q0 (.lst xs) μ0) := rfl
@[simp] theorem rdList_2 : rdList  [.lst zs0] μ0 Q0 = (∃ xs, seqOf μ0 (.lst zs0) = some xs ∧ Q0 (.lst xs) μ0) := rfl
@[simp] theorem rdList_3 : rdList  [.scr zs0] μ0 Q0 = (∃ xs, seqOf μ0 (.scr zs0) = some xs ∧ Q0 (.lst xs) μ0) := rfl
@[simp] theorem rdList_4 : rdList  [.ref za0] μ0 Q0 = (∃ xs, seqOf μ0 (.ref za0) = some xs ∧ Q0 (.lst xs) μ0) := rfl
def rdStr : RDn
  | [.int i], μ, Q => i.natAbs.log2 < 1920 ∧ Q (.str (toString i : Str).cps.toList) μ
  | _, _, _ => False
@[simp] theorem rdStr_1 : rdStr  [.int i0] μ0 Q0 = (i0.natAbs.log2 < 1920 ∧ Q0 (.str (toString i0 : Str).cps.toList) μ0) := rfl
def rdSum : RDn
  | [d], μ, Q => ∃ ns : List Int, lstOf μ d = some (ns.map D.int) ∧ Q (.int ns.sum) μ
  | _, _, _ => False
@[simp] theorem rdSum_1 : rdSum  [.lst zs0] μ0 Q0 = (∃ ns : List Int, lstOf μ0 (.lst zs0) = some (ns.map D.int) ∧ Q0 (.int ns.sum) μ0) := rfl
@[simp] theorem rdSum_2 : rdSum  [.scr zs0] μ0 Q0 = (∃ ns : List Int, lstOf μ0 (.scr zs0) = some (ns.map D.int) ∧ Q0 (.int ns.sum) μ0) := rfl
@[simp] theorem rdSum_3 : rdSum  [.ref za0] μ0 Q0 = (∃ ns : List Int, lstOf μ0 (.ref za0) = some (ns.map D.int) ∧ Q0 (.int ns.sum) μ0) := rfl
def rdAll : RDn
  | [d], μ, Q => ∃ bs : List Bool, lstOf μ d = some (bs.map D.bl) ∧ Q (.bl (bs.all id)) μ
  | _, _, _ => False
@[simp] theorem rdAll_1 : rdAll  [.lst zs0] μ0 Q0 = (∃ bs : List Bool, lstOf μ0 (.lst zs0) = some (bs.map D.bl) ∧ Q0 (.bl (bs.all id)) μ0) := rfl
@[simp] theorem rdAll_2 : rdAll  [.scr zs0] μ0 Q0 = (∃ bs : List Bool, lstOf μ0 (.scr zs0) = some (bs.map D.bl) ∧ Q0 (.bl (bs.all id)) μ0) := rfl
@[simp] theorem rdAll_3 : rdAll  [.ref za0] μ0 Q0 = (∃ bs : List Bool, lstOf μ0 (.ref za0) = some (bs.map D.bl) ∧ Q0 (.bl (bs.all id)) μ0) := rfl
def rdAny : RDn
  | [d], μ, Q => ∃ bs : List Bool, lstOf μ d = some (bs.map D.bl) ∧ Q (.bl (bs.any id)) μ
  | _, _, _ => False
@[simp] theorem rdAny_1 : rdAny  [.lst zs0] μ0 Q0 = (∃ bs : List Bool, lstOf μ0 (.lst zs0) = some (bs.map D.bl) ∧ Q0 (.bl (bs.any id)) μ0) := rfl
@[simp] theorem rdAny_2 : rdAny  [.scr zs0] μ0 Q0 = (∃ bs : List Bool, lstOf μ0 (.scr zs0) = some (bs.map D.bl) ∧ Q0 (.bl (bs.any id)) μ0) := rfl
@[simp] theorem rdAny_3 : rdAny  [.ref za0] μ0 Q0 = (∃ bs : List Bool, lstOf μ0 (.ref za0) = some (bs.map D.bl) ∧ Q0 (.bl (bs.any id)) μ0) := rfl
def rdMax : RDn
  | [d], μ, Q => ∃ ns : List Int, lstOf μ d = some (ns.map D.int) ∧ 0 < ns.length ∧ ∀ m, m ∈ ns → (∀ y, y ∈ ns → y ≤ m) → Q (.int m) μ
  | [.int i, .int j], μ, Q => Q (.int (if j > i then j else i)) μ
  | _, _, _ => False
@[simp] theorem rdMax_1 : rdMax  [.lst zs0] μ0 Q0 = (∃ ns : List Int, lstOf μ0 (.lst zs0) = some (ns.map D.int) ∧ 0 < ns.length ∧ ∀ m, m ∈ ns → (∀ y, y ∈ ns → y ≤ m) → Q0 (.int m) μ0) := rfl
@[simp] theorem rdMax_2 : rdMax  [.scr zs0] μ0 Q0 = (∃ ns : List Int, lstOf μ0 (.scr zs0) = some (ns.map D.int) ∧ 0 < ns.length ∧ ∀ m, m ∈ ns → (∀ y, y ∈ ns → y ≤ m) → Q0 (.int m) μ0) := rfl
@[simp] theorem rdMax_3 : rdMax  [.ref za0] μ0 Q0 = (∃ ns : List Int, lstOf μ0 (.ref za0) = some (ns.map D.int) ∧ 0 < ns.length ∧ ∀ m, m ∈ ns → (∀ y, y ∈ ns → y ≤ m) → Q0 (.int m) μ0) := rfl
@[simp] theorem rdMax_4 : rdMax  [.int i0, .int j0] μ0 Q0 = (Q0 (.int (if j0 > i0 then j0 else i0)) μ0) := rfl
def rdMin : RDn
  | [d], μ, Q => ∃ ns : List Int, lstOf μ d = some (ns.map D.int) ∧ 0 < ns.length ∧ ∀ m, m ∈ ns → (∀ y, y ∈ ns → m ≤ y) → Q (.int m) μ
  | [.int i, .int j], μ, Q => Q (.int (if j < i then j else i)) μ
  | _, _, _ => False
@[simp] theorem rdMin_1 : rdMin  [.lst zs0] μ0 Q0 = (∃ ns : List Int, lstOf μ0 (.lst zs0) = some (ns.map D.int) ∧ 0 < ns.length ∧ ∀ m, m ∈ ns → (∀ y, y ∈ ns → m ≤ y) → Q0 (.int m) μ0) := rfl
@[simp] theorem rdMin_2 : rdMin  [.scr zs0] μ0 Q0 = (∃ ns : List Int, lstOf μ0 (.scr zs0) = some (ns.map D.int) ∧ 0 < ns.length ∧ ∀ m, m ∈ ns → (∀ y, y ∈ ns → m ≤ y) → Q0 (.int m) μ0) := rfl
@[simp] theorem rdMin_3 : rdMin  [.ref za0] μ0 Q0 = (∃ ns : List Int, lstOf μ0 (.ref za0) = some (ns.map D.int) ∧ 0 < ns.length ∧ ∀ m, m ∈ ns → (∀ y, y ∈ ns → m ≤ y) → Q0 (.int m) μ0) := rfl
@[simp] theorem rdMin_4 : rdMin  [.int i0, .int j0] μ0 Q0 = (Q0 (.int (if j0 < i0 then j0 else i0)) μ0) := rfl
end

mutual
/-- may be written out by repr -/
def D.shows : D → Bool
  | .non => true | .bl _ => true | .int i => decide (i.natAbs.log2 < 1920) | .str _ => true
  | .tup xs => D.showsAll xs | .lst xs => D.showsAll xs
  | _ => false
def D.showsAll : List D → Bool
  | [] => true
  | x :: xs => x.shows && D.showsAll xs
end
mutual
theorem D.shows_flat : ∀ d : D, d.shows = true → d.flat = true ∧ d.py.showable = true ∧ d.py.hasDict = false
  | .non, _ => ⟨rfl, rfl, rfl⟩
  | .bl _, _ => ⟨rfl, rfl, rfl⟩
  | .int _, h => ⟨rfl, h, rfl⟩
  | .str _, _ => ⟨rfl, rfl, rfl⟩
  | .tup xs, h => D.showsAll_flat xs h
  | .lst xs, h => D.showsAll_flat xs h
  | .dct _, h => nomatch h
  | .scr _, h => nomatch h
  | .ref _, h => nomatch h
  | .ty _, h => nomatch h
  | .gl _, h => nomatch h
theorem D.showsAll_flat : ∀ ds : List D, D.showsAll ds = true → D.flats ds = true ∧ PyData.showableAll (D.pys ds) = true ∧ PyData.hasDictAll (D.pys ds) = false
  | [], _ => ⟨rfl, rfl, rfl⟩
  | x :: xs, h => by
    have h' := Bool.and_eq_true_iff.mp h
    obtain ⟨a1, a2, a3⟩ := D.shows_flat x h'.1
    obtain ⟨b1, b2, b3⟩ := D.showsAll_flat xs h'.2
    refine ⟨?_, ?_, ?_⟩
    · show (x.flat && D.flats xs) = true
      rw [a1, b1]; rfl
    · show (x.py.showable && PyData.showableAll (D.pys xs)) = true
      rw [a2, b2]; rfl
    · show (x.py.hasDict || PyData.hasDictAll (D.pys xs)) = false
      rw [a3, b3]; rfl
end
/-- the text of repr -/
def D.rep (d : D) : List Nat := d.py.shown.cps.toList
def repOk (d : D) : Prop := d.shows = true ∧ d.py.depth ≤ 50 ∧ d.rep.length ≤ SZ
def rdRepr : RDn
  | [d], μ, Q => repOk d ∧ Q (.str d.rep) μ
  | _, _, _ => False
@[simp] theorem rdRepr_1 {d : D} {μ : Sto} {Q : DK} : rdRepr [d] μ Q = (repOk d ∧ Q (.str d.rep) μ) := rfl
abbrev RDm := D → List D → Sto → DK → Prop
def MtS (K : PySem.W.Frag) (mg : Str → Option Value) (r : V → List V → Hp → VK → Prop) (rd : RDm) : Prop :=
  ∀ (F : Hp) (μ : Sto) (H : Hp) (v : V) (vs : List V) (d : D) (ds : List D) (Qd : DK) (Q : VK), Ok K mg F μ H → Wk K mg F μ H v d → Wks K mg F μ H vs ds → rd d ds μ Qd →
    (∀ v F' μ' H' dv, Ext F μ H F' μ' H' → Ok K mg F' μ' H' → Dt K mg F' v dv → Qd dv μ' → Q v H') → r v vs H Q
/-- of which built-in type the receiver is -/
@[simp] def tyD (μ : Sto) (T : String) (d : D) : Prop := match d with
  | .str _ => T = "str"
  | .int _ => T = "int"
  | d => T = "list" ∧ ∃ xs, lstOf μ d = some xs
@[simp] def dMt (T : String) (rd : RDm) (o : TED) (t : TAD) : TED := fun ρ μ Q => o ρ μ fun x μ1 => tyD μ1 T x ∧ t ρ μ1 fun ds μ2 => rd x ds μ2 Q
theorem Wk.ty' {K : PySem.W.Frag} {mg : Str → Option Value} {F H : Hp} {μ : Sto} (o : Ok K mg F μ H) {T : String} {v : V} {d : D} (w : Wk K mg F μ H v d) (h : tyD μ T d) : tyV K T v H := by
  have other : (T = "list" ∧ ∃ xs, lstOf μ d = some xs) → tyV K T v H := fun ⟨e, xs, hx⟩ => by
    obtain ⟨a, vs, rfl, ha, r⟩ := w.list o hx
    exact .inl ⟨e, vs, ha⟩
  cases d with
  | str s => rw [w.str]; exact h
  | int i => rw [w.int]; exact h
  | _ => exact other h
section
variable {X : Cx} {o e : Expr} {es : List Expr} {d : TED} {t : TAD} {name : Str} {apos cpos : Pos} {T id : String} {r : V → List V → Hp → VK → Prop} {rd : RDm}
theorem de_mt (pa : PlainAttrs T) (slot : Slot T name id) (hty : typeOf (.builtin id) = pure (.type "method_descriptor")) (hm : MtR X id r) (hs : MtS X.K X.mg r rd) (ho : DW X o d) (ha : DAW X (e :: es) t)
    (hbase : attributeBase o name X.env (eval o X.env) = eval o X.env := by rfl)
    (hfew : ((backTo cpos (starEach (e :: es) X.env)).all (fun x => !x.1) && (backToKw cpos (keywordEach [] X.env)).all (fun x => x.1.isSome) && decide ((e :: es).length + ([] : List Keyword).length + (if ([] : List Keyword).isEmpty then 0 else 1) < 30)) = true := by rfl)
    (hline : (apos.endLine == cpos.line) = true := by rfl) (hst : starEach (e :: es) X.env = (false, eval e X.env) :: starEach es X.env := by rfl) (hplain : (backTo cpos (starEach es X.env)).any (·.1) = false := by rfl) :
    DE X (.Call (.Attribute o name apos) (e :: es) [] cpos) (dMt T rd d t) := (pe_bm pa slot hty hm ho ha hbase hfew hline hst hplain).weaken fun σ H Q q => by
  obtain ⟨F, ρ, μ, Qd, R, hd, k⟩ := q
  refine ⟨F, ρ, μ, _, R, hd, fun v F1 μ1 H1 dv e1 o1 w1 q1 => ⟨w1.ty' o1 q1.1, F1, ρ, μ1, _, R.ext e1 o1, q1.2, fun vs F2 μ2 H2 ds e2 o2 w2 q2 => ?_⟩⟩
  exact hs F2 μ2 H2 v vs dv ds Qd Q o2 (w1.ext e2) w2 q2 fun z F3 μ3 H3 dz e3 o3 w3 q3 => k z F3 μ3 H3 dz (e1.trans (e2.trans e3)) o3 w3 q3
end
/-- the texts joined -/
def joinL (sep : List Nat) : List (List Nat) → List Nat
  | [] => []
  | x :: r => x ++ (r.map fun y => sep ++ y).flatten
def rdJoin : RDm
  | .str sep, [d], μ, Q => ∃ parts : List (List Nat), seqOf μ d = some (parts.map D.str) ∧ (parts.map List.length).sum + parts.length * sep.length ≤ SZ ∧ Q (.str (joinL sep parts)) μ
  | _, _, _, _ => False
@[simp] theorem rdJoin_1 : rdJoin  (.str sep0) [.tup zs0] μ0 Q0 = (∃ parts : List (List Nat), seqOf μ0 (.tup zs0) = some (parts.map D.str) ∧ (parts.map List.length).sum + parts.length * sep0.length ≤ SZ ∧ Q0 (.str (joinL sep0 parts)) μ0) := rfl
@[simp] theorem rdJoin_2 : rdJoin  (.str sep0) [.lst zs0] μ0 Q0 = (∃ parts : List (List Nat), seqOf μ0 (.lst zs0) = some (parts.map D.str) ∧ (parts.map List.length).sum + parts.length * sep0.length ≤ SZ ∧ Q0 (.str (joinL sep0 parts)) μ0) := rfl
@[simp] theorem rdJoin_3 : rdJoin  (.str sep0) [.scr zs0] μ0 Q0 = (∃ parts : List (List Nat), seqOf μ0 (.scr zs0) = some (parts.map D.str) ∧ (parts.map List.length).sum + parts.length * sep0.length ≤ SZ ∧ Q0 (.str (joinL sep0 parts)) μ0) := rfl
@[simp] theorem rdJoin_4 : rdJoin  (.str sep0) [.ref za0] μ0 Q0 = (∃ parts : List (List Nat), seqOf μ0 (.ref za0) = some (parts.map D.str) ∧ (parts.map List.length).sum + parts.length * sep0.length ≤ SZ ∧ Q0 (.str (joinL sep0 parts)) μ0) := rfl
/-- the first place of a sign from a place on, or -1 -/
def findI (s : List Nat) (c : Nat) (b : Nat) : Int := match (s.drop b).findIdx? (· == c) with
  | some k => ((b + k : Nat) : Int)
  | none => -1
def rdFind : RDm
  | .str s, [.str [c], .int i], μ, Q => 0 ≤ i ∧ Q (.int (findI s c i.toNat)) μ
  | _, _, _, _ => False
@[simp] theorem rdFind_1 : rdFind  (.str s0) [.str [c0], .int i0] μ0 Q0 = (0 ≤ i0 ∧ Q0 (.int (findI s0 c0 i0.toNat)) μ0) := rfl
end DL

namespace DL
open PySem PySem.Spec PyProof.Rows L2
section
variable {X : Cx} {B : Bs} {e o i : Expr} {es : List Expr} {d do' di : TED} {t : TAD} {p pos : Pos}
/-- a new list as one that changes -/
@[simp] def dM (d : TFD) : TED := fun ρ μ Q => d ρ μ fun xs μ1 => ∀ p, μ1 p = none → Q (.ref p) (sset μ1 p (.lst xs))
theorem de_M {d : TFD} (h : DF X e d) : DE X e (dM d) := h.weaken fun σ H Q q => by
  obtain ⟨F, ρ, μ, Qd, R, hd, k⟩ := q
  refine ⟨F, ρ, μ, _, R, hd, fun p vs F' μ' H' ds e o hn hf hm hh w q => ?_⟩
  refine k _ F' (sset μ' p (.lst ds)) H' _ ⟨e.mono, fun a x z n => ?_, e.live⟩ ⟨o.sub, fun a m z => ?_, fun a m z => ?_⟩ (.ref p) (q p hm)
  · obtain ⟨g1, g2, g3⟩ := e.keep a x z n
    have ha : a ≠ p := fun q => by subst q; rw [hn] at z; cases z
    exact ⟨g1, g2, by rw [sset_ne ha]; exact g3⟩
  · by_cases ha : a = p
    · subst ha; exact hf
    · rw [sset_ne ha] at z; exact o.dis a m z
  · by_cases ha : a = p
    · subst ha; rw [sset_same] at z; cases z; exact ⟨vs, hh, w⟩
    · rw [sset_ne ha] at z; exact o.sto a m z
section
variable {name : Str} {apos cpos : Pos} {T id : String} {r : V → List V → Hp → VK → Prop} {rd : RDm}
end
def rdApp : RDm
  | .ref a, [y], μ, Q => ∃ xs, μ a = some (.lst xs) ∧ xs.length < SZ ∧ Q .non (sset μ a (.lst (xs ++ [y])))
  | _, _, _, _ => False
@[simp] theorem rdApp_1 : rdApp  (.ref a0) [y0] μ0 Q0 = (∃ xs, μ0 a0 = some (.lst xs) ∧ xs.length < SZ ∧ Q0 .non (sset μ0 a0 (.lst (xs ++ [y0])))) := rfl
/-- pop() -/
def rdPop0 : RDm
  | .ref a, [], μ, Q => ∃ xs y, μ a = some (.lst xs) ∧ xs[xs.length - 1]? = some y ∧ Q y (sset μ a (.lst xs.dropLast))
  | _, _, _, _ => False
@[simp] theorem rdPop0_1 : rdPop0  (.ref a0) [] μ0 Q0 = (∃ xs y, μ0 a0 = some (.lst xs) ∧ xs[xs.length - 1]? = some y ∧ Q0 y (sset μ0 a0 (.lst xs.dropLast))) := rfl
/-- pop(i) -/
def rdPopAt : RDm
  | .ref a, [.int i], μ, Q => ∃ xs j y, μ a = some (.lst xs) ∧ -9223372036854775808 ≤ i ∧ i < 9223372036854775808 ∧ seqIndex? i xs.length = some j ∧ xs[j]? = some y ∧ Q y (sset μ a (.lst (xs.eraseIdx j)))
  | _, _, _, _ => False
@[simp] theorem rdPopAt_1 : rdPopAt  (.ref a0) [.int i0] μ0 Q0 = (∃ xs j y, μ0 a0 = some (.lst xs) ∧ -9223372036854775808 ≤ i0 ∧ i0 < 9223372036854775808 ∧ seqIndex? i0 xs.length = some j ∧ xs[j]? = some y ∧ Q0 y (sset μ0 a0 (.lst (xs.eraseIdx j)))) := rfl
theorem Dts.eraseIdx {K : PySem.W.Frag} {mg : Str → Option Value} {F : Hp} : ∀ {vs : List V} {ds : List D} (n : Nat), Dts K mg F vs ds → Dts K mg F (vs.eraseIdx n) (ds.eraseIdx n)
  | _, _, _, .nil => .nil
  | _, _, 0, .cons _ t => t
  | _, _, n + 1, .cons q t => .cons q (Dts.eraseIdx n t)
theorem Dts.dropLast {K : PySem.W.Frag} {mg : Str → Option Value} {F : Hp} {vs : List V} {ds : List D} (h : Dts K mg F vs ds) : Dts K mg F vs.dropLast ds.dropLast := by
  rw [List.dropLast_eq_take, List.dropLast_eq_take, h.length]
  exact h.take _
theorem mts_popAt {K : PySem.W.Frag} {mg : Str → Option Value} : MtS K mg rPopAt rdPopAt := by
  intro F μ H v vs d ds Qd Q o w ws h k
  unfold rdPopAt at h
  split at h
  · obtain ⟨u, rfl, wk⟩ := ws.one
    obtain ⟨xs, j, y, hx, h1, h2, h3, hy, q⟩ := h
    cases w.ref
    obtain ⟨us, ha, ru⟩ := o.sto _ _ hx
    obtain ⟨v, hv, wv⟩ := ru.get hy
    obtain ⟨g1, g2⟩ := o.write hx (.lst (us.eraseIdx j)) (.lst (xs.eraseIdx j)) ⟨_, upd_same, ru.eraseIdx j⟩
    exact ⟨_, us, _, j, v, rfl, by rw [wk.int], ha, h1, h2, by rw [ru.length]; exact h3, hv, k _ _ _ _ _ g2 g1 (wv.mono g2.mono) q⟩
  · exact h.elim

/-- o a list that changes -/
@[simp] def dPutM (d o i : TED) : TSD := fun E ρ μ => d ρ μ fun y μ1 => o ρ μ1 fun x μ2 => i ρ μ2 fun k μ3 => ∃ a xs n j, x = .ref a ∧ k = .int n ∧ μ3 a = some (.lst xs) ∧ ixN xs.length n = some j ∧ E.nx ρ (sset μ3 a (.lst (xs.set j y)))
theorem ds_putM {spos : Pos} (he : DE X e d) (ho : DE X o do') (hi : DW X i di)
    (ha : ∀ v, assign (.Subscript o i spos) X.env v = (do
      let ov ← holding [v] (eval o X.env)
      let iv ← holding [v, ov] (eval i X.env)
      standAt spos
      holding [v, ov, iv] (setItem ov iv v)
      release [v, ov, iv] []) := by intro _; rfl)
    (hs : swapsWithSole [.Subscript o i spos] e pos.line X.env = pure false := by rfl) (hw : swappedStores [.Subscript o i spos] e X.env = pure none := by rfl) (h1 : (assignEach [.Subscript o i spos] X.env).map (·.2) = [assign (.Subscript o i spos) X.env] := by rfl) :
    DSt X B (.Assign [.Subscript o i spos] e pos) (dPutM d do' di) := (ps_asg he (pg_sub ho hi set_list ha) hs hw h1).weaken fun E σ H h => by
  obtain ⟨F, ρ, μ, Dd, R, hd, kn, kb, kc, kr⟩ := h
  refine ⟨F, ρ, μ, _, R.rel, hd, fun v F1 μ1 H1 dv e1 o1 w1 q1 => ?_⟩
  refine ⟨F1, ρ, μ1, _, R.rel.ext e1 o1, q1, fun u F2 μ2 H2 du e2 o2 w2 q2 => ?_⟩
  refine ⟨F2, ρ, μ2, _, R.rel.ext (e1.trans e2) o2, q2, fun z F3 μ3 H3 dz e3 o3 w3 q3 => ?_⟩
  obtain ⟨a, xs, n, j, rfl, rfl, hx, hj, q⟩ := q3
  cases w2
  obtain ⟨us, hus, ru⟩ := o3.sto _ _ hx
  have e13 := e1.trans (e2.trans e3)
  obtain ⟨g1, g2⟩ := o3.write hx (.lst (us.set j v)) (.lst (xs.set j dv)) ⟨_, upd_same, ru.set ((w1.mono e2.mono).mono e3.mono) j⟩
  exact ⟨a, us, n, j, rfl, w3.int, hus, by rw [ru.length]; exact hj, kn F3 ρ _ σ _ (e13.trans g2).mono (R.step (e13.trans g2) g1) q⟩
/-- o a name of a list of the frame's own -/
@[simp] def dPut (sl : Nat) (d i : TED) : TSD := fun E ρ μ => ∃ xs, ρ[sl]? = some (some (.own xs)) ∧ d ρ μ fun y μ1 => i ρ μ1 fun k μ2 => ∃ n j, k = .int n ∧ ixN xs.length n = some j ∧ E.nx (ρ.set sl (some (.own (xs.set j y)))) μ2
end
end DL

namespace DL
open PySem PySem.Spec PyProof.Rows L2
section
variable {X : Cx} {e : Expr} {d : TED} {t : TAD} {p pos : Pos}
@[simp] def dRev (d : TED) : TED := fun ρ μ Q => d ρ μ fun x μ1 => match x with
  | .str s => s.length ≤ SZ ∧ Q (.str s.reverse) μ1
  | _ => False
@[simp] def dRevL (d : TED) : TED := fun ρ μ Q => d ρ μ fun x μ1 => ∃ xs, lstOf μ1 x = some xs ∧ Q (.lst xs.reverse) μ1
end
end DL

namespace DL
open PySem PySem.Spec PyProof.Rows L2
theorem forD_inv {g : TGD} {body : TSD} {E : DEnds} {inv : Sto → Prop} (P : List D → DEnv → Sto → Prop) (hi : ∀ xs ρ μ, P xs ρ μ → inv μ)
    (step : ∀ x xs ρ μ (n : DEnv → Sto → Prop), P (x :: xs) ρ μ → (∀ ρ' μ', P xs ρ' μ' → n ρ' μ') → g x ρ fun ρ1 => body { E with nx := n, ct := n, bk := E.nx } ρ1 μ) (done : ∀ ρ μ, P [] ρ μ → E.nx ρ μ) :
    ∀ items ρ μ, P items ρ μ → forD g body E inv items ρ μ := by
  intro items
  induction items with
  | nil => intro ρ μ h; exact ⟨hi _ _ _ h, done ρ μ h⟩
  | cons x xs ih => intro ρ μ h; exact ⟨hi _ _ _ h, step x xs ρ μ _ h ih⟩
/-- over a range from 0 -/
theorem forD_rng {g : TGD} {body : TSD} {E : DEnds} {n : Nat} (P : Nat → DEnv → Sto → Prop)
    (step : ∀ (i : Nat) ρ μ (k : DEnv → Sto → Prop), i < n → P i ρ μ → (∀ ρ' μ', P (i + 1) ρ' μ' → k ρ' μ') → g (.int i) ρ fun ρ1 => body { E with nx := k, ct := k, bk := E.nx } ρ1 μ) (done : ∀ ρ μ, P n ρ μ → E.nx ρ μ)
    {ρ : DEnv} {μ : Sto} (h0 : P 0 ρ μ) : forD g body E still (rngD 0 n) ρ μ := by
  refine forD_inv (fun xs ρ μ => ∃ i, i ≤ n ∧ xs = (rngD 0 n).drop i ∧ P i ρ μ) (fun _ _ _ _ => trivial) ?_ ?_ _ _ _ ⟨0, Nat.zero_le _, rfl, h0⟩
  · rintro x xs ρ μ k ⟨i, hi, e, hP⟩ hk
    have hl : (rngD 0 n).length = n := by simp [rngD]
    have hlt : i < n := by
      apply Decidable.byContradiction
      intro hc
      rw [List.drop_eq_nil_of_le (by omega)] at e
      cases e
    have hd := List.drop_eq_getElem_cons (l := rngD 0 n) (i := i) (by omega)
    rw [← e] at hd
    have hx : x = .int i := by
      rw [(List.cons.inj hd).1]
      simp [rngD]
    subst hx
    exact step i ρ μ k hlt hP fun ρ' μ' h => hk ρ' μ' ⟨i + 1, hlt, (List.cons.inj hd).2, h⟩
  · rintro ρ μ ⟨i, hi, e, hP⟩
    have hl : (rngD 0 n).length = n := by simp [rngD]
    have : i = n := by
      apply Decidable.byContradiction
      intro hc
      have hd := List.drop_eq_getElem_cons (l := rngD 0 n) (i := i) (by omega)
      rw [← e] at hd
      cases hd
    subst this
    exact done ρ μ hP
theorem dWhile_inv {c : TTD} {body : TSD} {E : DEnds} (P : Nat → DEnv → Sto → Prop)
    (step : ∀ m ρ μ (n : DEnv → Sto → Prop), P m ρ μ → (∀ m', m' < m → ∀ ρ' μ', P m' ρ' μ' → n ρ' μ') → c ρ μ fun b μ1 => if b = true then ∃ N : DEnv → Sto → Prop, (∀ ρ' μ', N ρ' μ' → ∃ m', m' < m ∧ P m' ρ' μ') ∧ body { E with nx := N, ct := N, bk := E.nx } ρ μ1 else E.nx ρ μ1)
    {ρ : DEnv} {μ : Sto} (m : Nat) (h : P m ρ μ) : dWhile c body E ρ μ := ⟨P, ⟨m, h⟩, fun m ρ μ hp => step m ρ μ (fun _ _ => True) hp fun _ _ _ _ _ => trivial⟩
theorem lcD_inv {vs : List Nat} {g : TGD} {c : TTD} {el : TED} {ρ : DEnv} {inv : Sto → Prop} {Q : List D → Sto → Prop} (P : List D → List D → Sto → Prop) (hi : ∀ xs acc μ, P xs acc μ → inv μ)
    (step : ∀ x xs acc μ (n : List D → Sto → Prop), P (x :: xs) acc μ → (∀ acc' μ', P xs acc' μ' → n acc' μ') → g x (wipeD ρ vs) fun ρ1 => c ρ1 μ fun b μ1 => if b = true then el ρ1 μ1 fun y μ2 => acc.length < SZ ∧ n (acc ++ [y]) μ2 else n acc μ1)
    (done : ∀ acc μ, P [] acc μ → Q acc μ) : ∀ items acc μ, P items acc μ → lcD vs g c el ρ inv Q items acc μ := by
  intro items
  induction items with
  | nil => intro acc μ h; exact ⟨hi _ _ _ h, done acc μ h⟩
  | cons x xs ih => intro acc μ h; exact ⟨hi _ _ _ h, step x xs acc μ (fun a m => lcD vs g c el ρ inv Q xs a m) h ih⟩
end DL

namespace DL
open PySem PySem.Spec PyProof.Rows L2
mutual
/-- data of which repr and == speak -/
def D.ic : D → Prop
  | .non => True
  | .bl _ => True
  | .int i => i.natAbs < 2 ^ 300
  | .str s => ∀ c ∈ s, c < 1114112
  | .tup xs => D.ics xs
  | .lst xs => D.ics xs
  | .dct _ => False | .scr _ => False | .ref _ => False | .ty _ => False | .gl _ => False | .pr _ _ => False | .obj _ _ => False | .exn _ _ => False
def D.ics : List D → Prop
  | [] => True
  | x :: xs => x.ic ∧ D.ics xs
end
mutual
def D.wt : D → Nat
  | .int _ => 300
  | .str s => s.length
  | .tup xs => D.wts xs
  | .lst xs => D.wts xs
  | .non => 0 | .bl _ => 0 | .dct _ => 0 | .scr _ => 0 | .ref _ => 0 | .ty _ => 0 | .gl _ => 0 | .pr _ _ => 0 | .obj _ _ => 0 | .exn _ _ => 0
def D.wts : List D → Nat
  | [] => 0
  | x :: xs => x.wt + 1 + D.wts xs
end
mutual
def D.dp : D → Nat
  | .tup xs => D.dps xs + 1
  | .lst xs => D.dps xs + 1
  | .int _ => 0 | .str _ => 0 | .non => 0 | .bl _ => 0 | .dct _ => 0 | .scr _ => 0 | .ref _ => 0 | .ty _ => 0 | .gl _ => 0 | .pr _ _ => 0 | .obj _ _ => 0 | .exn _ _ => 0
def D.dps : List D → Nat
  | [] => 0
  | x :: xs => max x.dp (D.dps xs)
end
theorem log_lt {n k : Nat} (hk : 0 < k) (h : n < 2 ^ k) : n.log2 < k := by
  by_cases h0 : n = 0
  · subst h0; simpa using hk
  · exact (Nat.log2_lt h0).mpr h
theorem S_all {s : List Nat} (h : ∀ c ∈ s, c < 1114112) : (S s).cps.all (· < 0x110000) = true := by
  show s.toArray.all _ = true
  rw [List.all_toArray, List.all_eq_true]
  intro c hc
  simpa using h c hc
mutual
theorem D.ic_all : ∀ d : D, d.ic → d.shows = true ∧ d.py.canLay0 = true ∧ d.py.intsShort 302 = true ∧ d.py.weight ≤ d.wt ∧ d.py.depth = d.dp
  | .non, _ => ⟨rfl, rfl, rfl, Nat.le_refl _, rfl⟩
  | .bl _, _ => ⟨rfl, rfl, rfl, Nat.le_refl _, rfl⟩
  | .int i, h => by
    have hl := log_lt (by decide) h
    refine ⟨?_, rfl, ?_, ?_, rfl⟩
    · show decide _ = true
      simp only [decide_eq_true_eq]
      omega
    · show decide _ = true
      simp only [decide_eq_true_eq]
      have := int_text_length_le (a := i) (k := 300) (by decide) hl
      have e : (PyData.shown (.int i)).length = (toString i).length := by
        show (Str.ofString (toString i)).length = _
        rw [PySem.ofString_length]
      rw [e]
      omega
    · show (if i == 0 then 0 else _) ≤ 300
      split <;> omega
  | .str s, h => by
    refine ⟨rfl, S_all h, rfl, ?_, rfl⟩
    show s.toArray.size ≤ s.length
    simp
  | .tup xs, h => by
    obtain ⟨a, b, c, e, f⟩ := D.ics_all xs h
    exact ⟨a, b, c, e, by show _ + 1 = _ + 1; rw [f]⟩
  | .lst xs, h => by
    obtain ⟨a, b, c, e, f⟩ := D.ics_all xs h
    exact ⟨a, b, c, e, by show _ + 1 = _ + 1; rw [f]⟩
  | .dct _, h => h.elim
  | .scr _, h => h.elim
  | .ref _, h => h.elim
  | .ty _, h => h.elim
  | .gl _, h => h.elim
  | .pr _ _, h => h.elim
  | .obj _ _, h => h.elim
  | .exn _ _, h => h.elim
theorem D.ics_all : ∀ ds : List D, D.ics ds → D.showsAll ds = true ∧ PyData.canLayAll0 (D.pys ds) = true ∧ PyData.intsShortAll 302 (D.pys ds) = true ∧ PyData.weightAll (D.pys ds) ≤ D.wts ds ∧ PyData.depthAll (D.pys ds) = D.dps ds
  | [], _ => ⟨rfl, rfl, rfl, Nat.le_refl _, rfl⟩
  | x :: xs, h => by
    obtain ⟨a, b, c, e, f⟩ := D.ic_all x h.1
    obtain ⟨a', b', c', e', f'⟩ := D.ics_all xs h.2
    refine ⟨?_, ?_, ?_, ?_, ?_⟩
    · show (x.shows && D.showsAll xs) = true
      rw [a, a']; rfl
    · show (x.py.canLay0 && PyData.canLayAll0 (D.pys xs)) = true
      rw [b, b']; rfl
    · show (x.py.intsShort 302 && PyData.intsShortAll 302 (D.pys xs)) = true
      rw [c, c']; rfl
    · show x.py.weight + 1 + PyData.weightAll (D.pys xs) ≤ x.wt + 1 + D.wts xs
      omega
    · show max x.py.depth (PyData.depthAll (D.pys xs)) = max x.dp (D.dps xs)
      rw [f, f']
end
theorem okEq_of {x y : D} (hx : x.ic) (hy : y.ic) (dx : x.dp ≤ 50) (dy : y.dp ≤ 50) : okEq x y := by
  have sh : ∀ d : D, d.ic → d.dp ≤ 50 → d.flat = true ∧ SeqAt.shaped d.py = true := fun d h hd => by
    obtain ⟨a, b, c, e, f⟩ := D.ic_all d h
    refine ⟨(D.shows_flat d a).1, ?_⟩
    unfold SeqAt.shaped
    rw [b]
    simp only [Bool.true_and, decide_eq_true_eq]
    omega
  exact .inr ⟨(sh x hx dx).1, (sh y hy dy).1, (sh x hx dx).2, (sh y hy dy).2⟩
@[simp] theorem okEq_int (i j : Int) : okEq (.int i) (.int j) := .inl rfl
@[simp] theorem okEq_str (s t : List Nat) : okEq (.str s) (.str t) := .inl rfl
@[simp] theorem okEq_bl (a b : Bool) : okEq (.bl a) (.bl b) := okEq_of trivial trivial (Nat.zero_le _) (Nat.zero_le _)
theorem eqv_same {x : D} (h : x.ic) : D.eqv x x = true := SeqAt.eqv_refl _ (D.ic_all x h).2.1
@[simp] theorem eqv_int (i j : Int) : D.eqv (.int i) (.int j) = decide (i = j) := by
  show (i == j) = _
  by_cases h : i = j <;> simp [h]
@[simp] theorem eqv_str (s t : List Nat) : D.eqv (.str s) (.str t) = decide (s = t) := by
  show (S s == S t) = _
  by_cases h : s = t
  · simp [h]
  · have : S s ≠ S t := fun e => h (S_inj.mp e)
    simp [h, this]
@[simp] theorem eqv_bl (a b : Bool) : D.eqv (.bl a) (.bl b) = (a == b) := rfl
@[simp] theorem eqv_non : D.eqv .non .non = true := rfl
def D.eqvs : List D → List D → Bool
  | [], [] => true
  | x :: xs, y :: ys => D.eqv x y && D.eqvs xs ys
  | _, _ => false
theorem eqvs_py : ∀ xs ys : List D, PyData.eqvAll (D.pys xs) (D.pys ys) = D.eqvs xs ys
  | [], [] => rfl
  | x :: xs, [] => rfl
  | [], y :: ys => rfl
  | x :: xs, y :: ys => by
    show (PyData.eqv x.py y.py && PyData.eqvAll (D.pys xs) (D.pys ys)) = _
    rw [eqvs_py xs ys]; rfl
@[simp] theorem eqv_lst (xs ys : List D) : D.eqv (.lst xs) (.lst ys) = D.eqvs xs ys := eqvs_py xs ys
@[simp] theorem eqv_tup (xs ys : List D) : D.eqv (.tup xs) (.tup ys) = D.eqvs xs ys := eqvs_py xs ys
@[simp] theorem eqvs_nil : D.eqvs [] [] = true := rfl
@[simp] theorem eqvs_cons (x y : D) (xs ys : List D) : D.eqvs (x :: xs) (y :: ys) = (D.eqv x y && D.eqvs xs ys) := rfl
theorem eqvs_nil_r (xs : List D) : D.eqvs xs [] = decide (xs = []) := by cases xs <;> rfl
abbrev nats (l : List Nat) : List D := l.map fun (n : Nat) => D.int n
theorem ints_flat : ∀ l : List Int, D.flats (l.map D.int) = true ∧ PyData.canLayAll0 (D.pys (l.map D.int)) = true ∧ PyData.depthAll (D.pys (l.map D.int)) = 0
  | [] => ⟨rfl, rfl, rfl⟩
  | x :: l => by
    obtain ⟨a, b, c⟩ := ints_flat l
    refine ⟨a, b, ?_⟩
    show max 0 (PyData.depthAll (D.pys (l.map D.int))) = 0
    rw [c]; rfl
/-- lists of whole numbers of any size may be compared -/
theorem okEq_ints (l r : List Int) : okEq (.lst (l.map D.int)) (.lst (r.map D.int)) := by
  have sh : ∀ l : List Int, SeqAt.shaped (D.lst (l.map D.int)).py = true := fun l => by
    obtain ⟨a, b, c⟩ := ints_flat l
    show (PyData.canLayAll0 (D.pys (l.map D.int)) && decide (PyData.depthAll (D.pys (l.map D.int)) + 1 ≤ 64)) = true
    rw [b, c]; rfl
  exact .inr ⟨(ints_flat l).1, (ints_flat r).1, sh l, sh r⟩
@[simp] theorem ixN_nat {n i : Nat} (h : i < n) : ixN n (i : Int) = some i := by
  unfold ixN
  rw [if_pos (by omega), if_pos (by omega)]
  rfl
theorem atI_nat {α : Type} (xs : List α) (i : Nat) : atI xs (i : Int) = xs[i]? := by
  unfold L2.atI
  by_cases h : i < xs.length
  · rw [ixN_nat h]; rfl
  · have : ixN xs.length (i : Int) = none := by
      unfold ixN
      rw [if_pos (by omega), if_neg (by omega)]
    rw [this, List.getElem?_eq_none (by omega)]
    rfl
theorem atI_of {α : Type} {xs : List α} {i : Int} (h0 : 0 ≤ i) (h1 : i < xs.length) : ∃ x, atI xs i = some x ∧ x ∈ xs := by
  obtain ⟨n, rfl⟩ := Int.eq_ofNat_of_zero_le h0
  rw [atI_nat]
  have hn : n < xs.length := by omega
  exact ⟨xs[n], List.getElem?_eq_getElem hn, List.getElem_mem hn⟩
@[simp] theorem atI_0 {α : Type} (x : α) (xs : List α) : atI (x :: xs) 0 = some x := atI_nat (x :: xs) 0
@[simp] theorem atI_1 {α : Type} (x y : α) (xs : List α) : atI (x :: y :: xs) 1 = some y := atI_nat (x :: y :: xs) 1
@[simp] theorem atI_2 {α : Type} (x y z : α) (xs : List α) : atI (x :: y :: z :: xs) 2 = some z := atI_nat (x :: y :: z :: xs) 2
@[simp] theorem ixN_0 (n : Nat) : ixN (n + 1) 0 = some 0 := ixN_nat (n := n + 1) (i := 0) (by omega)
@[simp] theorem ixN_1 (n : Nat) : ixN (n + 2) 1 = some 1 := ixN_nat (n := n + 2) (i := 1) (by omega)
@[simp] theorem ixN_2 (n : Nat) : ixN (n + 3) 2 = some 2 := ixN_nat (n := n + 3) (i := 2) (by omega)
end DL

namespace DL
open PySem PySem.Spec PyProof.Rows L2
abbrev typs : List String := ["NoneType", "bool", "int", "str", "list", "tuple", "dict"]
@[simp] def isiD : D → String → Bool
  | .non, T => decide (T = "NoneType")
  | .bl _, T => decide (T = "bool") || decide (T = "int")
  | .int _, T => decide (T = "int")
  | .str _, T => decide (T = "str")
  | .tup _, T => decide (T = "tuple")
  | .lst _, T => decide (T = "list")
  | .scr _, T => decide (T = "list")
  | .dct _, T => decide (T = "dict")
  | _, _ => false
@[simp] def isiOk : D → Bool
  | .non | .bl _ | .int _ | .str _ | .tup _ | .lst _ | .scr _ | .dct _ => true
  | _ => false
def rdIsi : RDn
  | [d, .ty T], μ, Q => isiOk d = true ∧ T ∈ typs ∧ Q (.bl (isiD d T)) μ
  | _, _, _ => False
@[simp] theorem rdIsi_1 : rdIsi  [d0, .ty T0] μ0 Q0 = (isiOk d0 = true ∧ T0 ∈ typs ∧ Q0 (.bl (isiD d0 T0)) μ0) := rfl
section
variable {K : PySem.W.Frag} {mg : Str → Option Value} {F H : Hp} {μ : Sto}
end
section
variable {X : Cx} {x : Str} {T : String} {pos p : Pos} {e e2 : Expr} {t : TAD}
/-- the name of a built-in type -/
theorem de_tyN (hg : Gl X x) (hm : X.mg x = none) (hv : bootBuiltins x = some (.type T)) (hn : x ≠ "__name__" := by decide) (hd : (x == ("__debug__" : Str)) = false := by decide) : DE X (.Name x pos) (dC (.ty T)) :=
  de_c (pe_bltn (v := .ty T) hg hm hv rfl hn hd) fun _ => .ty T
def zipD (xs ys : List D) : List D := (xs.zip ys).map fun p => .pr p.1 p.2
@[simp] def dZip (t : TAD) : TSrc := fun ρ μ Q => t ρ μ fun xs μ1 => match xs with
  | [.tup xs, .tup ys] => Q (zipD xs ys) still μ1
  | [.lst xs, .lst ys] => Q (zipD xs ys) still μ1
  | _ => False
@[simp] def dNever : TSD := fun _ _ _ => False
end
section
variable {K : PySem.W.Frag} {mg : Str → Option Value}
def rdIsB : RD2
  | .bl a, .bl b, μ, Q => Q (.bl (decide (a = b))) μ
  | _, _, _, _ => False
@[simp] theorem rdIsB_1 : rdIsB  (.bl a0) (.bl b0) μ0 Q0 = (Q0 (.bl (decide (a0 = b0))) μ0) := rfl
def rdNotB : RD2
  | .bl a, .bl b, μ, Q => Q (.bl (!decide (a = b))) μ
  | _, _, _, _ => False
@[simp] theorem rdNotB_1 : rdNotB  (.bl a0) (.bl b0) μ0 Q0 = (Q0 (.bl (!decide (a0 = b0))) μ0) := rfl
end
section
variable {X : Cx} {B : Bs} {pos : Pos}
/-- x, y, z = a, b, c: values -/
@[simp] def dPar3 (i j l : Nat) (t : TAD) : TSD := fun E ρ μ => t ρ μ fun xs μ1 => match xs with
  | [x, y, z] => E.nx (((ρ.set i (some (.val x))).set j (some (.val y))).set l (some (.val z))) μ1
  | _ => False
end
end DL

namespace DL
open PySem PySem.Spec PyProof.Rows L2
/-- enumerate of a text -/
@[simp] def dEnumS (t : TAD) : TSrc := fun ρ μ Q => t ρ μ fun xs μ1 => match xs with
  | [.str s] => Q (enumD 0 (strD s)) still μ1
  | _ => False
section
variable {K : PySem.W.Frag} {mg : Str → Option Value}
def rdNeR : RD2
  | .ref a, .lst ys, μ, Q => ∃ xs, μ a = some (.lst xs) ∧ okEq (.lst xs) (.lst ys) ∧ Q (.bl (!D.eqv (.lst xs) (.lst ys))) μ
  | _, _, _, _ => False
@[simp] theorem rdNeR_1 : rdNeR  (.ref a0) (.lst ys0) μ0 Q0 = (∃ xs, μ0 a0 = some (.lst xs) ∧ okEq (.lst xs) (.lst ys0) ∧ Q0 (.bl (!D.eqv (.lst xs) (.lst ys0))) μ0) := rfl
theorem ops_neR : OpS K mg (r2Or (rNeD K) rNe) rdNeR := by
  intro F μ H x y dx dy Qd Q o wx wy h k
  cases dx <;> first | exact h.elim | skip
  cases dy <;> first | exact h.elim | skip
  rename_i a ys
  obtain ⟨xs, hx, ok, q⟩ := h
  cases wx.ref
  obtain ⟨vs, ha, ra⟩ := o.sto _ _ hx
  rcases ok with ok | ⟨f1, f2, s1, s2⟩
  · exact (Bool.false_ne_true ok).elim
  · exact .inl ⟨_, _, .lst (.inl (.inl ha)) (Dts.dp o.sub ra f1), wy.dp o f2, s1, s2, fin0 o k (.bl _) q⟩
end
end DL

namespace DL
open PySem PySem.Spec PyProof.Rows L2
theorem Dts.split {K : PySem.W.Frag} {mg : Str → Option Value} {F : Hp} {vs : List V} {ds : List D} (n : Nat) (r : Dts K mg F vs ds) : vs = vs.take n ++ vs.drop n ∧ Dts K mg F (vs.take n) (ds.take n) ∧ Dts K mg F (vs.drop n) (ds.drop n) := ⟨(List.take_append_drop n vs).symm, r.take n, r.drop n⟩
section
variable {P : Program} {w : World} {K : PySem.W.Frag} {mg : Str → Option Value} {base : Heap} {k : Nat} {f : Addr} {ps : List Str} {S : DSp}
end
/-- each item gives one, nothing changes -/
theorem lcD_list {α : Type} {vs : List Nat} {g : TGD} {el : TED} {ρ : DEnv} {Q : List D → Sto → Prop} {μ : Sto} {inv : Sto → Prop} (l : List α) (i r : α → D) (hi : inv μ) (hl : l.length ≤ SZ)
    (step : ∀ a ∈ l, ∀ k : D → Sto → Prop, k (r a) μ → g (i a) (wipeD ρ vs) fun ρ1 => el ρ1 μ k) (done : Q (l.map r) μ) : lcD vs g dYes el ρ inv Q (l.map i) [] μ := by
  refine lcD_inv (fun xs acc μ' => μ' = μ ∧ ∃ pre post, l = pre ++ post ∧ xs = post.map i ∧ acc = pre.map r) (fun _ _ _ h => h.1 ▸ hi) ?_ ?_ (l.map i) [] μ ⟨rfl, [], l, rfl, rfl, rfl⟩
  · rintro x xs acc μ' n ⟨rfl, pre, post, e, hx, rfl⟩ hn
    cases post with
    | nil => cases hx
    | cons a post =>
      rw [List.map_cons] at hx
      cases hx
      have := step a (by rw [e]; simp) (fun y m => (pre.map r).length < SZ ∧ n (pre.map r ++ [y]) m) ⟨by rw [e] at hl; simp at hl ⊢; omega, hn _ _ ⟨rfl, pre ++ [a], post, by simp [e], rfl, by simp⟩⟩
      simpa using this
  · rintro acc μ' ⟨rfl, pre, post, e, hx, rfl⟩
    cases post with
    | nil => rw [List.append_nil] at e; subst e; exact done
    | cons a post => cases hx
/-- each item that fits gives one, nothing changes -/
theorem lcD_listF {α : Type} {vs : List Nat} {g : TGD} {c : TTD} {el : TED} {ρ : DEnv} {Q : List D → Sto → Prop} {μ : Sto} {inv : Sto → Prop} (l : List α) (p : α → Bool) (i r : α → D) (hi : inv μ) (hl : l.length ≤ SZ)
    (step : ∀ a ∈ l, ∀ (k : D → Sto → Prop) (n : Sto → Prop), (p a = true → k (r a) μ) → (p a = false → n μ) → g (i a) (wipeD ρ vs) fun ρ1 => c ρ1 μ fun b μ1 => if b = true then el ρ1 μ1 k else n μ1)
    (done : Q ((l.filter p).map r) μ) : lcD vs g c el ρ inv Q (l.map i) [] μ := by
  refine lcD_inv (fun xs acc μ' => μ' = μ ∧ ∃ pre post, l = pre ++ post ∧ xs = post.map i ∧ acc = (pre.filter p).map r) (fun _ _ _ h => h.1 ▸ hi) ?_ ?_ (l.map i) [] μ ⟨rfl, [], l, rfl, rfl, rfl⟩
  · rintro x xs acc μ' n ⟨rfl, pre, post, e, hx, rfl⟩ hn
    cases post with
    | nil => cases hx
    | cons a post =>
      rw [List.map_cons] at hx
      cases hx
      refine step a (by rw [e]; simp) _ (fun m => n _ m) (fun hp => ⟨?_, hn _ _ ⟨rfl, pre ++ [a], post, by simp [e], rfl, by simp [hp]⟩⟩) fun hp => hn _ _ ⟨rfl, pre ++ [a], post, by simp [e], rfl, by simp [hp]⟩
      have := List.length_filter_le p pre
      rw [e] at hl
      simp at hl ⊢
      omega
  · rintro acc μ' ⟨rfl, pre, post, e, hx, rfl⟩
    cases post with
    | nil => rw [List.append_nil] at e; subst e; exact done
    | cons a post => cases hx
end DL

namespace DL
open PySem PySem.Spec PyProof.Rows L2
/-- enumerate of a tuple -/
@[simp] def dEnumT (t : TAD) : TSrc := fun ρ μ Q => t ρ μ fun xs μ1 => match xs with
  | [.tup s] => Q (enumD 0 s) still μ1
  | _ => False
theorem de_globI {X : Cx} {x : Str} {i : Int} {t : Tok} {pos : Pos} (hg : Gl X x) (hm : X.mg x = some (.int i t)) (hdb : (x == ("__debug__" : Str)) = false := by decide) : DE X (.Name x pos) (dC (.int i)) :=
  de_glob (v := .int i) hg hm ⟨_, rfl⟩ (fun F => .int i) hdb
end DL

namespace DL
open PySem PySem.Spec PyProof.Rows L2
open RZ (nextOf_tuple_item nextOf_tuple_end call_zipT pyNext_zipT_item pyNext_zipT_end)
section
variable {prog : Program} {w : World} {A : Around} {E : Value → Shared → Prop} {s : Shared}
/-- the pairs laid so far -/
structure ZGot (xs ys : Array Value) (base : Nat) (h : Heap) (ts : List Addr) : Prop where
  low : ∀ t ∈ ts, base ≤ t
  nd : ts.Nodup
  pr : ∀ (j : Nat) (t : Addr), ts[j]? = some t → ∃ x y, xs[j]? = some x ∧ ys[j]? = some y ∧ IsPair h t x y
theorem ZGot.keep {xs ys : Array Value} {base : Nat} {h h' : Heap} {ts : List Addr} (g : ZGot xs ys base h ts) (k : ∀ t, base ≤ t → ∀ o, h.get? t = some o → h'.get? t = some o) : ZGot xs ys base h' ts :=
  ⟨g.low, g.nd, fun j t e => let ⟨x, y, a, b, c⟩ := g.pr j t e; ⟨x, y, a, b, k t (g.low t (List.mem_of_getElem? e)) _ c⟩⟩
theorem ZGot.more {xs ys : Array Value} {base : Nat} {h : Heap} {ts : List Addr} {p : Addr} {x y : Value} (g : ZGot xs ys base h ts) (hp : base ≤ p) (hn : p ∉ ts) (hx : xs[ts.length]? = some x) (hy : ys[ts.length]? = some y) (hq : IsPair h p x y) : ZGot xs ys base h (ts ++ [p]) := by
  refine ⟨fun t ht => ?_, ?_, fun j t e => ?_⟩
  · rcases List.mem_append.mp ht with h1 | h1
    · exact g.low t h1
    · rw [List.mem_singleton.mp h1]; exact hp
  · rw [List.nodup_append]
    exact ⟨g.nd, by simp, fun a ha b hb => by rw [List.mem_singleton.mp hb]; exact fun e => hn (e ▸ ha)⟩
  · rcases Nat.lt_or_ge j ts.length with h1 | h1
    · rw [List.getElem?_append_left h1] at e; exact g.pr j t e
    · rw [List.getElem?_append_right h1] at e
      have hj : j = ts.length := by
        rcases Nat.eq_or_lt_of_le h1 with q | q
        · exact q.symm
        · rw [List.getElem?_eq_none (by simp; omega)] at e; cases e
      subst hj
      rw [Nat.sub_self] at e
      cases e
      exact ⟨x, y, hx, hy, hq⟩
/-- where the iterator stands -/
structure ZSt (z TI TO i1 i2 l1 l2 : Addr) (xs ys : Array Value) (i : Nat) (h : Heap) : Prop where
  pTI : IsPair h TI (.ref i1) (.ref i2)
  g1 : h.IsTupleIter i1 l1 i
  g2 : h.IsTupleIter i2 l2 i
  t1 : h.IsTuple l1 xs
  t2 : h.IsTuple l2 ys
  st : (IsZip h z TI TO .none ∧ ∃ a b, IsPair h TO a b) ∨ ∃ T f oT, IsZipHeld h z TI TO T f ∧ h.get? T = some oT ∧ T ≠ z ∧ T ≠ i1 ∧ T ≠ i2
structure ZOff (z TI TO i1 i2 l1 l2 S : Addr) : Prop where
  z : S ≠ z
  TI : S ≠ TI
  TO : S ≠ TO
  i1 : S ≠ i1
  i2 : S ≠ i2
  l1 : S ≠ l1
  l2 : S ≠ l2
theorem ZSt.upd {z TI TO i1 i2 l1 l2 S : Addr} {xs ys : Array Value} {i : Nat} {h h' : Heap} (a : ZSt z TI TO i1 i2 l1 l2 xs ys i h) (n : ZOff z TI TO i1 i2 l1 l2 S) (k : ∀ b o, b ≠ S → h.get? b = some o → h'.get? b = some o) (hS : ∀ o, h.get? S = some o → ∃ o', h'.get? S = some o') : ZSt z TI TO i1 i2 l1 l2 xs ys i h' := by
  refine ⟨k _ _ n.TI.symm a.pTI, a.g1.at fun o e => k _ o n.i1.symm e, a.g2.at fun o e => k _ o n.i2.symm e, a.t1.at fun o e => k _ o n.l1.symm e, a.t2.at fun o e => k _ o n.l2.symm e, ?_⟩
  rcases a.st with ⟨q, x, y, r⟩ | ⟨T, f, oT, q, r, r1, r2, r3⟩
  · exact .inl ⟨k _ _ n.z.symm q, x, y, k _ _ n.TO.symm r⟩
  · refine .inr ?_
    by_cases hT : T = S
    · subst hT
      obtain ⟨o', ho'⟩ := hS _ r
      exact ⟨T, f, o', k _ _ n.z.symm q, ho', r1, r2, r3⟩
    · exact ⟨T, f, oT, k _ _ n.z.symm q, k _ _ hT r, r1, r2, r3⟩
end
section
variable {prog : Program} {w : World} {A : Around} {R : Result → Shared → Prop}
end
section
variable {prog : Program} {w : World} {A : Around} {E : Value → Shared → Prop} {s : Shared} {R : Result → Shared → Prop}
end
section
variable {prog : Program} {w : World} {A : Around} {E : Value → Shared → Prop} {s : Shared}
end
section
variable {X : Cx}
end
def zipT (xs ys : List D) : List D := (xs.zip ys).map fun p => .tup [p.1, p.2]
section
variable {K : PySem.W.Frag} {mg : Str → Option Value}
end
@[simp] def dLzipF (t : TAD) : TFD := fun ρ μ Q => t ρ μ fun ds μ1 => match ds with
  | [.tup xs, .tup ys] => Q (zipT xs ys) μ1
  | _ => False
section
variable {X : Cx} {e e2 : Expr} {t : TAD} {p p2 pos pos2 : Pos}
end
end DL

namespace DL
open PySem PySem.Spec PyProof.Rows L2
open RZ (nextOf_tuple_item nextOf_tuple_end)
/-- the iterator at i, which walks over the items xs that are kept at l -/
structure Wlk (i l : Addr) (xs : Array Value) where
  It : Nat → Heap → Prop
  Src : Heap → Prop
  it : ∀ {k h h'}, It k h → (∀ o, h.get? i = some o → h'.get? i = some o) → It k h'
  src : ∀ {h h'}, Src h → (∀ o, h.get? l = some o → h'.get? l = some o) → Src h'
  item : ∀ {prog : Program} {w : World} {A : Around} {E : Value → Shared → Prop} {s : Shared} {k : Nat} {x : Value} {Q : Value → Shared → Prop}, It k s.heap → Src s.heap → xs[k]? = some x →
    (∀ h', It (k + 1) h' → Heap.SameBut i s.heap h' → Q x { s with heap := h' }) → wpAny (model prog w) A (Builtin.SmallTypes.nextOf (.ref i)) Q E s
  fin : ∀ {prog : Program} {w : World} {A : Around} {E : Value → Shared → Prop} {s : Shared} {k : Nat} {Q : Value → Shared → Prop}, A.handled = none → It k s.heap → Src s.heap → xs[k]? = none →
    (∀ h' e, Heap.ExtBut i s.heap h' → (∃ o, h'.get? e = some o ∧ o.cls = .type "StopIteration") → E (.ref e) { s with heap := h' }) → wpAny (model prog w) A (Builtin.SmallTypes.nextOf (.ref i)) Q E s
def Wlk.list (i l : Addr) (xs : Array Value) : Wlk i l xs where
  It := fun k h => h.IsListIter i l k
  Src := fun h => h.IsList l xs
  it := fun a b => a.at b
  src := fun a b => a.at b
  item := fun a b c d => wpAny_nextOf_list_item a b c d
  fin := fun a b c d e => wpAny_nextOf_list_end a b c d e
def Wlk.tup (i l : Addr) (xs : Array Value) : Wlk i l xs where
  It := fun k h => h.IsTupleIter i l k
  Src := fun h => h.IsTuple l xs
  it := fun a b => a.at b
  src := fun a b => a.at b
  item := fun a b c d => nextOf_tuple_item a b c d
  fin := fun a b c d e => nextOf_tuple_end a b c d e
section
variable {prog : Program} {w : World} {A : Around} {E : Value → Shared → Prop} {s : Shared} {z TI TO i1 i2 l1 l2 : Addr} {k1 k2 : Nat} {xs ys : Array Value} {a b : Value}
end
section
variable {prog : Program} {w : World} {A : Around} {E : Value → Shared → Prop} {s : Shared}
end
section
variable {X : Cx} {e e2 : Expr} {p pos tpos : Pos} {elts : List Expr} {kk : Nat}
/-- zip of a list and a tuple -/
@[simp] def dZipM (t : TAD) : TSrc := fun ρ μ Q => t ρ μ fun xs μ1 => match xs with
  | [.lst xs, .tup ys] => Q (zipD xs ys) still μ1
  | _ => False
end
end DL

namespace DL
open PySem PySem.Spec PyProof.Rows L2
open TS (TupInts intsOf)
open PySem.W
section
variable {prog : Program} {w : World} {A : Around} {E : Value → Shared → Prop} {s : Shared}
end
abbrev tupD (q : List Nat) : D := .tup (nats q)
abbrev intL (q : List Nat) : List Int := q.map fun n : Nat => (n : Int)
@[simp] def dSortF (t : TAD) : TFD := fun ρ μ Q => t ρ μ fun ds μ1 => match ds with
  | [.lst xs] => ∃ ls : List (List Nat), xs = ([] :: ls).map tupD ∧ ∀ ls' : List (List Nat), ls'.Perm ([] :: ls) → ls'.Pairwise (fun p q => HT.lexLt (intL q) (intL p) = false) → Q (ls'.map tupD) μ1
  | _ => False
end DL

namespace DL
open PySem PySem.Spec PyProof.Rows L2
def rdCountL : RDm
  | .lst xs, [.int k], μ, Q => ∃ ns : List Int, xs = ns.map D.int ∧ Q (.int (ns.count k : Nat)) μ
  | _, _, _, _ => False
@[simp] theorem rdCountL_1 {xs : List D} {k : Int} {μ : Sto} {Q : DK} : rdCountL (.lst xs) [.int k] μ Q = (∃ ns : List Int, xs = ns.map D.int ∧ Q (.int (ns.count k : Nat)) μ) := rfl
end DL

namespace DL
open PySem PySem.Spec PyProof.Rows L2
def rdInDat (neg : Bool) : RD2
  | x, .lst ds, μ, Q => x.ic ∧ D.ics ds ∧ x.dp ≤ 50 ∧ Q (.bl (if neg then !(ds.any fun z => D.eqv z x) else ds.any fun z => D.eqv z x)) μ
  | _, _, _, _ => False
@[simp] theorem rdInDat_1 (neg : Bool) {x : D} {ds : List D} {μ : Sto} {Q : DK} : rdInDat neg x (.lst ds) μ Q = (x.ic ∧ D.ics ds ∧ x.dp ≤ 50 ∧ Q (.bl (if neg then !(ds.any fun z => D.eqv z x) else ds.any fun z => D.eqv z x)) μ) := rfl
end DL

namespace DL
open PySem PySem.Spec PyProof.Rows L2 PySem.W PySem.Calls
section
open Builtin Builtin.ObjectAttr
variable {prog : Program} {w : World} {A : Around} {R : Result → Shared → Prop} {hp : Heap} {g : Array GenState} {d : Drawn} {t : Nat} {os : OsState}
/-- self.name = v on a fresh exception of an own class -/
theorem set_first {B : String} {bmB : List Value} (SF : StoreFacts B bmB "object.__setattr__" "object") {K : Frag} {name : Str} {tk : Tok} {v : Value} {x C : Addr} {fv : Array Value}
    (X : K.In hp) (hx : hp.get? x = some { cls := .ref C, data := .fields fv }) (ho : excOver K C bmB = true) (hh : hasDictIn K C = true) (ha : findIn K (.ref C) name = some none)
    (hq : ∀ h' tk' dx, (∀ b o, b ≠ x → hp.get? b = some o → h'.get? b = some o) → hp.objs.size ≤ dx → dx ≠ x → h'.get? x = some { cls := .ref C, dict := some dx, data := .fields fv } →
      h'.Ns1 dx (fun y => if y = name then some v else none) → R (.ok (.ret .none)) ⟨h', g, d, tk', os⟩) :
    codeAny (model prog w) A (.call (.builtin "object.__setattr__") ⟨[.ref x, .str name tk, v], []⟩) R ⟨hp, g, d, t, os⟩ := by
  have I : W.InstAt hp x { cls := .ref C, data := .fields fv } C none := ⟨hx, rfl, rfl, trivial⟩
  have hxs : x ≠ hp.objs.size := Nat.ne_of_lt (Heap.lt_size hx)
  obtain ⟨cd, hcd, hd1⟩ := any_some hh
  have hcls : W.Looks (model prog w) hp (classData C) cd := W.looks_clsIn X hcd
  refine osa_openX (r := none) SF X I ho (by unfold takerIn; rw [ha]; rfl) fun b => ?_
  dsimp only
  obtain ⟨nm, bs, mro, ns, qn, hd, sn, sb, ab, col, del⟩ := cd
  dsimp only at hd1
  subst hd1
  unfold storeInOwnDict ownDictForStores
  repeat (first | with_reducible refine HandSPX.store_in_new ?_ ?_ | with_reducible refine wpAny_loadPart_at hx ?_ | with_reducible refine hcls.at ?_ | wp_step)
  · exact ⟨_, #[], _, (Heap.get?_update_ne _ _ _ _ hxs.symm).trans (Heap.get?_push_at rfl rfl), rfl, fun e he => absurd he (by simp), fun _ => rfl⟩
  · intro h' tk' hn' hs
    refine hq h' tk' hp.objs.size (fun b o hb ho => ?_) (Nat.le_refl _) hxs.symm ?_ hn'
    · exact (hs.2 b (Nat.ne_of_lt (Heap.lt_size ho))).trans ((Heap.get?_update_ne _ _ _ _ hb).trans (Heap.get?_push_of_some _ ho))
    · exact (hs.2 x hxs).trans (Heap.get?_update_self _ (Heap.get?_push_of_some _ hx) rfl)
end
def iA (f : Str) (p1 p2 : Pos) : Arguments := { posonlyargs := [], args := [{ arg := "self", annotation := none, pos := p1 }, { arg := f, annotation := none, pos := p2 }], vararg := none, kwonlyargs := [], kw_defaults := [], kwarg := none, defaults := [] }
def iB (f : Str) (q1 q2 q3 q4 : Pos) : List Stmt := [.Assign [.Attribute (.Name "self" q1) f q2] (.Name f q3) q4]
def iS (f : Str) : Scope := { kind := .function, names := [(PySem.Str.ofString "self", .local), (f, .local)], isGenerator := false, isCoroutine := false, more := [] }
/-- what a field's name must be -/
structure FldOk (f : Str) : Prop where
  bind : ∀ (qual : Str) (p1 p2 q1 q2 q3 q4 : Pos) (doc pm cdv ct : Value) (an : Option Addr) (a b : Value), bindArgs (fnOf "__init__" qual (iA f p1 p2) (iB f q1 q2 q3 q4) (iS f) .none .none doc pm an cdv ct) ⟨[a, b], []⟩ = pure [(("self" : Str), a), (f, b)]
  names : ∀ a b : Value, (([("self", a), (f, b)] : List (Str × Value)).all fun y => (iS f).names.lookup y.1 == some .local || (iS f).names.lookup y.1 == some .cell) = true
  loc0 : ∀ (qual : Str) (L c : Addr) (cd u v : Value), bindL (envOfC qual (iS f) L c cd).kindOf [(("self" : Str), u), (f, v)] (fun _ => none) "self" = some u
  loc1 : ∀ (qual : Str) (L c : Addr) (cd u v : Value), bindL (envOfC qual (iS f) L c cd).kindOf [(("self" : Str), u), (f, v)] (fun _ => none) f = some v
  kind0 : ∀ (qual : Str) (L c : Addr) (cd : Value), (envOfC qual (iS f) L c cd).kindOf "self" = some .local
  kind1 : ∀ (qual : Str) (L c : Addr) (cd : Value), (envOfC qual (iS f) L c cd).kindOf f = some .local
  dbg : (f == ("__debug__" : Str)) = false
theorem fld_value : FldOk "value" := ⟨fun _ _ _ _ _ _ _ _ _ _ _ _ _ _ => rfl, fun _ _ => rfl, fun _ _ _ _ _ _ => rfl, fun _ _ _ _ _ _ => rfl, fun _ _ _ _ => rfl, fun _ _ _ _ => rfl, by decide⟩
theorem fld_index : FldOk "index" := ⟨fun _ _ _ _ _ _ _ _ _ _ _ _ _ _ => rfl, fun _ _ => rfl, fun _ _ _ _ _ _ => rfl, fun _ _ _ _ _ _ => rfl, fun _ _ _ _ => rfl, fun _ _ _ _ => rfl, by decide⟩
theorem fld_limit : FldOk "limit" := ⟨fun _ _ _ _ _ _ _ _ _ _ _ _ _ _ => rfl, fun _ _ => rfl, fun _ _ _ _ _ _ => rfl, fun _ _ _ _ _ _ => rfl, fun _ _ _ _ => rfl, fun _ _ _ _ => rfl, by decide⟩
/-- what the written part says of the class x at C (one field f; a built-in base with the mro bmB) and of its __init__, at fI -/
structure OwnTxt (K : Frag) (mg : Str → Option Value) (x f : Str) (C fI : Addr) (B : String) (bmB : List Value) (newId initId : String) : Prop where
  fb : ExcBaseFacts B newId initId bmB
  sf : StoreFacts B bmB "object.__setattr__" "object"
  fo : FldOk f
  gC : mg x = some (.ref C)
  qI : excInitIn K C bmB newId = true
  qO : excOver K C bmB = true
  sa : findIn K (.ref C) "__setattr__" = some (some (.builtin "object.__setattr__"))
  noN : findIn K (.ref C) f = some none
  iC : findIn K (.ref C) "__init__" = some (some (.ref fI))
  tC : typeIn K (.ref fI) = some (.type "function")
  kC : keepIn K (.ref C) = true
  exC : subIn K (.ref C) (.type "BaseException") = some true
  tyC : typeIn K (.ref C) = some (.type "type")
  hdC : hasDictIn K C = true
  fn : ∃ (q : Str) (oc : Value) (od : Option Addr) (doc pm : Value) (an : Option Addr) (cdv ct : Value) (osl : Array (Option Value)) (p1 p2 q1 q2 q3 q4 : Pos),
    K.lookup fI = some ⟨oc, od, .func (fnOf "__init__" q (iA f p1 p2) (iB f q1 q2 q3 q4) (iS f) .none .none doc pm an cdv ct), osl⟩ ∧ codeIn K cdv q = true
/-- a local name's value -/
theorem ld_loc {M : Model} {s : Shared} {qual : Str} {scope : Scope} {L c : Addr} {cd : Value} {m : Str → Option Value} {y : Str} {pos : Pos} {v : Value} {Q : Value → Shared → Prop} {A : Around} {E : Value → Shared → Prop} (hn : s.heap.Ns L m) (hv : m y = some v)
    (hk : scope.kind = .function) (hl : (envOfC qual scope L c cd).kindOf y = some .local) (hd : (y == ("__debug__" : Str)) = false) (h : Q v s) :
    wpAny M A (eval (.Name y pos) (envOfC qual scope L c cd)) Q E s := wpAny_Name (wpAny_loadName_local hk hl hn hv h) hd
/-- an object of the class is made -/
structure NewExc (h h' : Heap) (e C dx : Addr) (f : Str) (v : Value) : Prop where
  keep : ∀ b o, h.get? b = some o → h'.get? b = some o
  new : h.objs.size ≤ e
  obj : ∃ t, h'.get? e = some { cls := .ref C, dict := some dx, data := .fields #[.ref t, .none, .none, .none, .bool false, .none] }
  dbig : h.objs.size ≤ dx
  dne : dx ≠ e
  ns : h'.Ns1 dx (fun y => if y = f then some v else none)
section
variable {prog : Program} {w : World} {A : Around} {R : Result → Shared → Prop} {s : Shared} {K : Frag} {mg : Str → Option Value} {C fI : Addr} {x f : Str} {B newId initId : String} {bmB : List Value}
theorem own_init (T : OwnTxt K mg x f C fI B bmB newId initId) {e t0 : Addr} {v : Value} (X : K.In s.heap) (hlim : s.heap.NoLimit) (hx : s.heap.get? e = some (HandSPX.excO C t0)) (hroom : A.depth < recursionLimit)
    (hq : ∀ h' tk dx, (∀ b o, b ≠ e → s.heap.get? b = some o → h'.get? b = some o) → s.heap.objs.size ≤ dx → dx ≠ e → h'.get? e = some { cls := .ref C, dict := some dx, data := .fields #[.ref t0, .none, .none, .none, .bool false, .none] } →
      h'.Ns1 dx (fun y => if y = f then some v else none) → R (.ok (.ret .none)) { s with heap := h', toks := tk }) :
    codeAny (model prog w) A (.call (.ref fI) ⟨[.ref e, v], []⟩) R s := by
  obtain ⟨q, oc, od, doc, pm, an, cdv, ct, osl, p1, p2, q1, q2, q3, q4, ho, hcd⟩ := T.fn
  refine Att.call_fn (binds := [("self", .ref e), (f, v)]) X hlim ho hcd hroom (BindsTo.of_eq (T.fo.bind _ _ _ _ _ _ _ _ _ _ _ _ _ _)) (T.fo.names _ _) (fun s₁ IC => ?_) rfl rfl rfl
  obtain ⟨h₁, tk₁, rfl⟩ := IC.toInCall.same
  have k : ∀ b o, s.heap.get? b = some o → h₁.get? b = some o := IC.toInCall.keep
  have hn := IC.toInCall.ns
  have X₁ : K.In h₁ := X.keeps k
  have hx₁ := k _ _ hx
  show wpAny _ _ (execs _ _) _ _ _
  refine wpAny_execs_cons (plainObj_wpAny_Assign_Attribute ?_)
  refine ld_loc hn (T.fo.loc1 _ _ _ _ _ _) rfl (T.fo.kind1 _ _ _ _) T.fo.dbg (ld_loc hn (T.fo.loc0 _ _ _ _ _ _) rfl (T.fo.kind0 _ _ _ _) (by decide) ?_)
  refine set_plain X₁ (ox := HandSPX.excO C t0) (od := none) ⟨hx₁, rfl, rfl, trivial⟩ T.sa ?_
  refine set_first T.sf X₁ hx₁ T.qO T.hdC T.noN (fun h₃ tk₃ dx k₃ dn dne hx₃ hn₃ => ?_)
  show wpAny _ _ (execs _ _) _ _ _
  have z : s.heap.objs.size < h₁.objs.size := hn.lt
  exact wpAny_execs_nil (hq h₃ tk₃ dx (fun b o hb y => k₃ b o hb (k b o y)) (Nat.le_of_lt (Nat.lt_of_lt_of_le z dn)) dne hx₃ hn₃)
theorem own_made (T : OwnTxt K mg x f C fI B bmB newId initId) {v : Value} (X : K.In s.heap) (hlim : s.heap.NoLimit) (hroom : A.depth + 1 < recursionLimit)
    (hq : ∀ h' tk e dx, NewExc s.heap h' e C dx f v → R (.ok (.ret (.ref e))) { s with heap := h', toks := tk }) :
    codeAny (model prog w) A (.call (.ref C) ⟨[v], []⟩) R s := by
  obtain ⟨nm, N, qn, bs, bm, hdct, sn, sub, ab, col, dd, k0, k1, k2, k3, k5, hC, hT⟩ := excInit_of X T.qI
  obtain ⟨hp, g, dr, tk, os⟩ := s
  have k : ∀ b o, hp.get? b = some o → ((hp.push (kdv_tup [v])).push (HandSPX.excO C hp.objs.size)).get? b = some o := fun b o y => Heap.get?_push_of_some _ (Heap.get?_push_of_some _ y)
  have hget : ((hp.push (kdv_tup [v])).push (HandSPX.excO C hp.objs.size)).get? (hp.objs.size + 1) = some (HandSPX.excO C hp.objs.size) := by heap_get
  refine HandSPX.call_own T.fb hT hC (looks_findIn X T.iC) (fun self => bind_fn X self T.tC) (by rw [sizeLine_eq]; exact (by decide : 1 ≤ 16777216)) ?_
  refine own_init (s := ⟨(hp.push (kdv_tup [v])).push (HandSPX.excO C hp.objs.size), g, dr, tk, os⟩) T (X.keeps k) (hlim.keeps k) hget (show A.depth + 1 < recursionLimit from hroom) fun h' tk' dx k' dn dne hx hns => ?_
  have old : ∀ b o, hp.get? b = some o → h'.get? b = some o := fun b o y => k' b o (Nat.ne_of_lt (Nat.lt_succ_of_lt (Heap.lt_size y))) (k b o y)
  have z : hp.objs.size ≤ dx := by
    have dn' := dn
    simp only [Heap.size_push] at dn'
    omega
  exact ⟨rfl, hq h' tk' (hp.objs.size + 1) dx ⟨old, Nat.le_succ _, ⟨_, hx⟩, z, dne, hns⟩⟩
end
theorem relO_fld {f : Str} {v : V} {v' : Value} (r : RelV v v') (y : Str) : RelO (List.lookup y [(f, v)]) (if y = f then some v' else none) := by
  by_cases h : y = f
  · subst h
    rw [if_pos rfl]
    have e : List.lookup y [(y, v)] = some v := by simp [List.lookup]
    rw [e]
    exact r
  · rw [if_neg h]
    have e : (y == f) = false := by simpa using h
    have e2 : List.lookup y [(f, v)] = none := by simp [List.lookup, e]
    rw [e2]
    trivial
section
variable {X : Cx} {C fI : Addr} {x f : Str} {B newId initId : String} {bmB : List Value}
/-- x(a): an exception with one field -/
def tMkF (C : Addr) (f : Str) (ta : TA) : L2.St → Hp → XK → Prop := fun σ H Q => ta σ H fun vs H1 => ∃ v, vs = [v] ∧ ∀ dx, H1 dx = none → Q (.ref C) (some dx) (upd H1 dx (.xd [(f, v)]))
theorem pmk_fld {a : Expr} {ta : TA} {p pos : Pos} {k : Nat} (T : OwnTxt X.K X.mg x f C fI B bmB newId initId) (hr : Room k X.A) (ha : PA X [a] ta) (hg : Gl X x) (hdb : (x == ("__debug__" : Str)) = false := by decide)
    (he : starEach (a :: []) X.env = (false, eval a X.env) :: starEach [] X.env := by rfl) (hpl : (backTo pos (starEach [] X.env)).any (·.1) = false := by rfl) :
    PMk X (.Call (.Name x p) [a] [] pos) (tMkF C f ta) := by
  intro pins s σ H Q I h
  refine wpAny_Call_Name_kw (ld_glob I hg T.gC ?_ hdb)
  refine PySem.W.callWith_K (h₀ := X.base) I.ok.mod.kin T.kC (thn (ha.run pos pins s σ H _ I h) fun us s1 hh => ?_) he hpl
  obtain ⟨vs, H1, I1, r1, v, ev, q1⟩ := hh
  subst ev
  refine ⟨I1.kIn, ?_⟩
  obtain ⟨v', rfl, rv⟩ := Vals.one r1
  show wpAny _ _ (call (.ref C) [v']) _ _ _
  have hlim := I1.nolimit
  obtain ⟨hp, g, dr, tk, os⟩ := s1
  refine wpAny_call (own_made T I1.kIn hlim (by have := hr.dp; omega) fun h' tk' e dx M => ?_)
  show MkP X pins σ Q (.ref e) ⟨h', g, dr, tk', os⟩
  obtain ⟨t1, hoe⟩ := M.obj
  obtain ⟨G, g1, g2⟩ := restrict h' fun b => decide (b ≠ e)
  have gk : ∀ b, b ≠ e → G.get? b = h'.get? b := fun b hb => g1 b (decide_eq_true hb)
  have ge : G.get? e = none := g2 e (by simp)
  have old : ∀ b o, hp.get? b = some o → G.get? b = some o := fun b o y => (gk b (Nat.ne_of_lt (Nat.lt_of_lt_of_le (Heap.lt_size y) M.new))).trans (M.keep b o y)
  have ob : ObjOk X.prog X.w (upd H1 dx (.xd [(f, v)])) G dx (.xd [(f, v)]) := ⟨_, M.ns.at (fun o y => (gk dx M.dne).trans y), fun y => relO_fld rv y⟩
  have J : Inv X pins σ (upd H1 dx (.xd [(f, v)])) ⟨G, g, dr, tk', os⟩ := I1.laid (t' := tk') old M.dbig ob
  refine ⟨e, _, _, ⟨G, g, dr, tk', os⟩, _, .ref C, some dx, rfl, J, fun b o y => ?_, ge, hoe, ⟨rfl, rfl⟩, rfl, rfl, ?_, rfl, I1.bare, raises_own T.exC T.tyC, q1 dx (I1.hok.fresh M.dbig)⟩
  · by_cases hb : b = e
    · have y' : G.get? b = some o := y
      rw [hb, ge] at y'
      cases y'
    · exact (gk b hb).symm.trans y
  · rw [upd_ne (Ne.symm M.dne)]
    exact I1.hok.fresh M.new
/-- x(): an own class without own __init__ -/
theorem pmk_own0 {B newId initId : String} {p : Pos} {pos : Pos} (F : ExcBaseFacts B newId initId bmB) (q : PySem.W.excIn X.K C bmB newId = true) (gC : X.mg x = some (.ref C))
    (kC : PySem.W.keepIn X.K (.ref C) = true) (r : Raises X (.ref C)) (hg : Gl X x) (hdb : (x == ("__debug__" : Str)) = false := by decide) :
    PMk X (.Call (.Name x p) [] [] pos) (fun _ H Q => Q (.ref C) none H) := by
  intro pins s σ H Q I h
  refine wpAny_Call_Name_kw (ld_glob I hg gC ?_ hdb)
  refine PySem.W.callWith_K0 I.kIn kC ?_
  obtain ⟨bm, N, nm, qn, bs, hdct, sn, sub, ab, col, dd, k0, k1, k2, k3, k5, mN, hC, hN, hni, T⟩ := exc_obj I.kIn q
  refine wpAny_call_exc_subT F T hC hN hni (fun h' e hm => ?_) (by rw [sizeLine_eq]; exact Nat.zero_le _)
  exact mk_of I hm r h (I.hok.gone hm.new)
end
end DL

namespace DL
open PySem PySem.Spec PyProof.Rows L2
/-- an exception that is made, over data -/
abbrev TXD := DEnv → Sto → DXK → Prop
def liftX (K : PySem.W.Frag) (mg : Str → Option Value) (d : TXD) : L2.St → Hp → XK → Prop := fun σ H Q => ∃ F ρ μ Ed, Rel K mg F ρ μ σ H ∧ d ρ μ Ed ∧
  ∀ cv od F' μ' H' c fs, Ext F μ H F' μ' H' → Ok K mg F' μ' H' → XD K mg H F' μ' H' cv od c fs → Ed c fs μ' → Q cv od H'
abbrev DX (X : Cx) (e : Expr) (d : TXD) : Prop := PMk X e (liftX X.K X.mg d)
@[simp] def dMkF (c f : Str) (t : TAD) : TXD := fun ρ μ Q => t ρ μ fun ds μ1 => match ds with
  | [d] => Q c [(f, d)] μ1
  | _ => False
@[simp] def dMk0 (c : Str) : TXD := fun _ μ Q => Q c [] μ
/-- a class whose objects have one field; a class without -/
def FldCls (K : PySem.W.Frag) (mg : Str → Option Value) (x f : Str) : Prop := ∃ C fI B bmB newId initId, OwnTxt K mg x f C fI B bmB newId initId
def NoFld (K : PySem.W.Frag) (mg : Str → Option Value) (x : Str) : Prop := ∃ C B bmB newId initId, ExcBaseFacts B newId initId bmB ∧ PySem.W.excIn K C bmB newId = true ∧ mg x = some (.ref C) ∧ PySem.W.keepIn K (.ref C) = true ∧
  PySem.W.subIn K (.ref C) (.type "BaseException") = some true ∧ PySem.W.typeIn K (.ref C) = some (.type "type")
section
variable {X : Cx} {x f : Str} {k : Nat} {a e : Expr} {t : TAD} {d : TXD} {p pos : Pos} {B : Bs}
theorem dx_fld (T : FldCls X.K X.mg x f) (hr : Room k X.A) (ha : DA X [a] t) (hg : Gl X x) (hdb : (x == ("__debug__" : Str)) = false := by decide)
    (he : starEach (a :: []) X.env = (false, eval a X.env) :: starEach [] X.env := by rfl) (hpl : (backTo pos (starEach [] X.env)).any (·.1) = false := by rfl) : DX X (.Call (.Name x p) [a] [] pos) (dMkF x f t) := by
  obtain ⟨C, fI, B, bmB, newId, initId, T⟩ := T
  intro pins s σ H Q I h
  refine pmk_fld T hr ha hg hdb he hpl pins s σ H Q I ?_
  obtain ⟨F, ρ, μ, Ed, R, hd, kk⟩ := h
  refine ⟨F, ρ, μ, _, R, hd, fun vs F1 μ1 H1 ds e1 o1 w1 q1 => ?_⟩
  match ds, w1, q1 with
  | [d], .cons (v := v) w .nil, q1 =>
    refine ⟨v, rfl, fun dx hdx => ?_⟩
    obtain ⟨o2, e2⟩ := o1.layN hdx (.xd [(f, v)])
    obtain ⟨hf, hm⟩ := o1.fresh hdx
    exact kk _ _ F1 μ1 _ x [(f, d)] (e1.trans e2) o2 ⟨C, rfl, T.gC, .inr ⟨dx, [(f, v)], rfl, by simp, e1.live dx hdx, hf, hm, upd_same, rfl, .cons w .nil⟩⟩ q1
theorem dx_none (T : NoFld X.K X.mg x) (hg : Gl X x) (hdb : (x == ("__debug__" : Str)) = false := by decide) : DX X (.Call (.Name x p) [] [] pos) (dMk0 x) := by
  obtain ⟨C, B, bmB, newId, initId, fb, q, gC, kC, exC, tyC⟩ := T
  intro pins s σ H Q I h
  refine pmk_own0 fb q gC kC (raises_own exC tyC) hg hdb pins s σ H Q I ?_
  obtain ⟨F, ρ, μ, Ed, R, hd, kk⟩ := h
  exact kk _ _ F μ H x [] .refl R.ok ⟨C, rfl, gC, .inl ⟨rfl, rfl⟩⟩ hd
theorem XD.mono {K : PySem.W.Frag} {mg : Str → Option Value} {H0 H1 F H : Hp} {μ : Sto} {cv : Value} {od : Option Addr} {c : Str} {fs : List (Str × D)} (h : ∀ a, H1 a = none → H0 a = none) (x : XD K mg H1 F μ H cv od c fs) : XD K mg H0 F μ H cv od c fs := by
  obtain ⟨C, h1, h2, h3⟩ := x
  refine ⟨C, h1, h2, ?_⟩
  rcases h3 with h3 | ⟨d, vfs, a1, a2, a3, a4⟩
  · exact .inl h3
  · exact .inr ⟨d, vfs, a1, a2, h d a3, a4⟩
@[simp] def dRaise (d : TXD) (W : DEnv → DXK) : TSD := fun _ ρ μ => d ρ μ (W ρ)
end
section
variable {P : Program} {w : World} {K : PySem.W.Frag} {mg : Str → Option Value} {base : Heap} {k n : Nat} {f : Addr} {fd : FuncData} {ps : List Str} {S : DSp}
end
section
variable {X : Cx} {x : Str} {k : Nat} {a b e : Expr} {es : List Expr} {t : TAD} {tt : TTD} {d da db : TED} {p pos : Pos} {B : Bs} {S : DSp} {W : DEnv → DXK}
@[simp] def dCallX (S : DSp) (t : TAD) (W : DEnv → DXK) : TED := fun ρ μ Q => t ρ μ fun ds μ1 => S ds μ1 Q (W ρ)
@[simp] def dExprX (d : TED) : TSD := fun D ρ μ => d ρ μ fun _ μ1 => D.nx ρ μ1
end
end DL

namespace DL
open PySem PySem.Spec PyProof.Rows L2
/-- the exception's own dict, in the store and out of it -/
def sdel (μ : Sto) (a : Addr) : Sto := fun b => if b = a then none else μ b
def excU (od : Option Addr) (μ : Sto) : Sto := match od with
  | none => μ
  | some d => sdel μ d
section
variable {K : PySem.W.Frag} {mg : Str → Option Value} {B : Bs} {F F' H H' : Hp} {μ μ' : Sto} {ρ : DEnv} {σ : L2.St}
theorem RelB.excU {od : Option Addr} (r : RelB K mg B F ρ μ σ H) : RelB K mg B F ρ (excU od μ) σ H := by
  cases od with
  | none => exact r
  | some d =>
    have le : ∀ {a : Addr}, μ a = none → sdel μ d a = none := fun {a} h => by
      unfold sdel
      split
      · rfl
      · exact h
    have ge : ∀ {a : Addr} {m : MO}, sdel μ d a = some m → μ a = some m := fun {a m} h => by
      unfold sdel at h
      split at h
      · cases h
      · exact h
    refine ⟨⟨⟨r.rel.ok.sub, fun a m e => r.rel.ok.dis a m (ge e), fun a m e => r.rel.ok.sto a m (ge e)⟩, r.rel.len, fun i s e => ?_, r.rel.apart⟩, ⟨r.ext.mono, fun a o e n => ?_, r.ext.live⟩, r.new⟩
    · obtain ⟨v, g1, g2⟩ := r.rel.slot i s e
      refine ⟨v, g1, ?_⟩
      cases s with
      | val d' => exact g2
      | own xs =>
        obtain ⟨a, vs, q1, q2, q3, q4, q5⟩ := g2
        exact ⟨a, vs, q1, q2, le q3, q4, q5⟩
    · obtain ⟨g1, g2, g3⟩ := r.ext.keep a o e n
      exact ⟨g1, g2, le g3⟩
end
/-- the ends of an except suite -/
def exD (i : Nat) (od : Option Addr) (E : DEnds) : DEnds := { nx := fun ρ μ => E.nx (ρ.set i none) (excU od μ), rt := fun d μ => E.rt d (excU od μ), bk := fun ρ μ => E.bk (ρ.set i none) (excU od μ), ct := fun ρ μ => E.ct (ρ.set i none) (excU od μ) }
@[simp] theorem exD_rt {i : Nat} {od : Option Addr} {E : DEnds} {d : D} {μ : Sto} : (exD i od E).rt d μ = E.rt d (excU od μ) := rfl
@[simp] theorem exD_nx {i : Nat} {od : Option Addr} {E : DEnds} {ρ : DEnv} {μ : Sto} : (exD i od E).nx ρ μ = E.nx (ρ.set i none) (excU od μ) := rfl
section
variable {X : Cx} {B : Bs} {x n : Str} {cv : Value} {i : Nat} {body suite : List Stmt} {b₀ : Stmt} {np pos pos' : Pos} {cat : Str → Option Bool} {tb : (DEnv → DXK) → TSD} {ts : Addr → Option Addr → Str → TSD} {Wout : DEnv → DXK}
end
end DL

namespace DL
open PySem PySem.Spec PyProof.Rows L2
structure XTab where
  own : List (Str × Str × Bool)
  blt : List (Str × String × Bool)
def XTab.get (T : XTab) (c q : Str) : Option Bool := (T.own.find? fun z => decide (z.1 = c) && decide (z.2.1 = q)).map (·.2.2)
def XTab.getT (T : XTab) (c : Str) (t : String) : Option Bool := (T.blt.find? fun z => decide (z.1 = c) && decide (z.2.1 = t)).map (·.2.2)
def isCls : D → Bool
  | .gl _ => true
  | .ty _ => true
  | _ => false
def XTab.any (T : XTab) (c : Str) : List D → Option Bool
  | [] => some false
  | .gl q :: r => match T.get c q with
    | some true => if r.all isCls then some true else none
    | some false => T.any c r
    | none => none
  | .ty t :: r => match T.getT c t with
    | some true => if r.all isCls then some true else none
    | some false => T.any c r
    | none => none
  | _ :: _ => none
structure XTabOk (K : PySem.W.Frag) (mg : Str → Option Value) (T : XTab) : Prop where
  own : ∀ z ∈ T.own, ∃ C Q, mg z.1 = some (.ref C) ∧ mg z.2.1 = some (.ref Q) ∧ PySem.W.kitOne K (.ref C) (.ref Q) = some z.2.2 ∧ PySem.W.exmOne K (.ref C) (.ref Q) = some z.2.2 ∧ ExcC K C
  blt : ∀ z ∈ T.blt, ∃ C, mg z.1 = some (.ref C) ∧ PySem.W.kitOne K (.ref C) (.type z.2.1) = some z.2.2 ∧ ExcC K C
section
variable {K : PySem.W.Frag} {mg : Str → Option Value} {T : XTab} {c q : Str} {t : String} {b : Bool} {C : Addr}
theorem XTabOk.get (h : XTabOk K mg T) (e : T.get c q = some b) (hc : mg c = some (.ref C)) : ∃ Q, mg q = some (.ref Q) ∧ PySem.W.kitOne K (.ref C) (.ref Q) = some b ∧ PySem.W.exmOne K (.ref C) (.ref Q) = some b ∧ ExcC K C := by
  unfold XTab.get at e
  obtain ⟨z, hz, rfl⟩ := Option.map_eq_some_iff.mp e
  have hm := List.mem_of_find?_eq_some hz
  have hp := List.find?_some hz
  rw [Bool.and_eq_true, decide_eq_true_eq, decide_eq_true_eq] at hp
  obtain ⟨rfl, rfl⟩ := hp
  obtain ⟨C', Q, h1, h2, h3⟩ := h.own z hm
  rw [hc] at h1
  cases h1
  exact ⟨Q, h2, h3⟩
theorem XTabOk.getT (h : XTabOk K mg T) (e : T.getT c t = some b) (hc : mg c = some (.ref C)) : PySem.W.kitOne K (.ref C) (.type t) = some b ∧ ExcC K C := by
  unfold XTab.getT at e
  obtain ⟨z, hz, rfl⟩ := Option.map_eq_some_iff.mp e
  have hm := List.mem_of_find?_eq_some hz
  have hp := List.find?_some hz
  rw [Bool.and_eq_true, decide_eq_true_eq, decide_eq_true_eq] at hp
  obtain ⟨rfl, rfl⟩ := hp
  obtain ⟨C', h1, h3⟩ := h.blt z hm
  rw [hc] at h1
  cases h1
  exact h3
theorem clsV_of {F : Hp} {v : V} {d : D} (h : isCls d = true) (r : Dt K mg F v d) : ∃ u, ClsV v u := by
  cases r <;> first | exact (Bool.false_ne_true h).elim | skip
  · exact ⟨_, .ty _⟩
  · exact ⟨_, .own _⟩
theorem clsVs_of {F : Hp} : ∀ {vs : List V} {ds : List D}, ds.all isCls = true → Dts K mg F vs ds → ∃ us, Paired ClsV vs us
  | _, _, _, .nil => ⟨[], .nil⟩
  | _, _, h, .cons r rs => by
    rw [List.all_cons, Bool.and_eq_true] at h
    obtain ⟨u, hu⟩ := clsV_of h.1 r
    obtain ⟨us, hus⟩ := clsVs_of h.2 rs
    exact ⟨u :: us, .cons hu hus⟩
theorem XTabOk.any (h : XTabOk K mg T) (hc : mg c = some (.ref C)) {F : Hp} : ∀ (ds : List D) (vs : List V) (b : Bool), T.any c ds = some b → Dts K mg F vs ds → ∃ us, Paired ClsV vs us ∧ PySem.W.kitAny K (.ref C) us = some b
  | [], vs, b, e, r => by
    cases r
    cases e
    exact ⟨[], .nil, rfl⟩
  | d :: ds, vs, b, e, r => by
    cases r with
    | cons r rs =>
      rename_i v vs
      have key : ∀ (g : Option Bool) (u : Value), (match g with | some true => if ds.all isCls then some true else none | some false => T.any c ds | none => none) = some b → ClsV v u → (∀ b', g = some b' → PySem.W.kitOne K (.ref C) u = some b') → ∃ us, Paired ClsV (v :: vs) us ∧ PySem.W.kitAny K (.ref C) us = some b := fun g u e hu hk => by
        match g, e, hk with
        | some true, e, hk =>
          dsimp only at e
          split at e
          · rename_i ha
            cases e
            obtain ⟨us, hus⟩ := clsVs_of ha rs
            exact ⟨u :: us, .cons hu hus, by unfold PySem.W.kitAny; rw [hk true rfl]⟩
          · cases e
        | some false, e, hk =>
          obtain ⟨us, hus, hka⟩ := XTabOk.any h hc ds vs b e rs
          exact ⟨u :: us, .cons hu hus, by unfold PySem.W.kitAny; rw [hk false rfl]; exact hka⟩
        | none, e, hk => cases e
      cases d <;> first | cases e; done | skip
      · rename_i n
        cases r
        exact key (T.getT c n) _ e (.ty n) fun b' hb => (h.getT hb hc).1
      · rename_i x
        cases r
        rename_i a ha
        refine key (T.get c x) _ e (.own a) fun b' hb => ?_
        obtain ⟨Q, h1, h2, _⟩ := h.get hb hc
        rw [ha] at h1
        cases h1
        exact h2
end
/-- the exception's dict is in the store -/
def excHas (od : Option Addr) (μ : Sto) : Prop := match od with
  | none => True
  | some d => ∃ fs, μ d = some (.xd fs)
def rdIsX (a : Addr) (od : Option Addr) (c : Str) (T : XTab) : RDn
  | [.ref x, .gl q], μ, Q => x = a ∧ excHas od μ ∧ ∃ b, T.get c q = some b ∧ Q (.bl b) μ
  | [.ref x, .ty t], μ, Q => x = a ∧ excHas od μ ∧ ∃ b, T.getT c t = some b ∧ Q (.bl b) μ
  | [.ref x, .tup cs], μ, Q => x = a ∧ cs ≠ [] ∧ excHas od μ ∧ ∃ b, T.any c cs = some b ∧ Q (.bl b) μ
  | _, _, _ => False
@[simp] theorem rdIsX_1 {a x : Addr} {od : Option Addr} {c q : Str} {T : XTab} {μ : Sto} {Q : DK} : rdIsX a od c T [.ref x, .gl q] μ Q = (x = a ∧ excHas od μ ∧ ∃ b, T.get c q = some b ∧ Q (.bl b) μ) := rfl
@[simp] theorem rdIsX_2 {a x : Addr} {od : Option Addr} {c : Str} {t : String} {T : XTab} {μ : Sto} {Q : DK} : rdIsX a od c T [.ref x, .ty t] μ Q = (x = a ∧ excHas od μ ∧ ∃ b, T.getT c t = some b ∧ Q (.bl b) μ) := rfl
@[simp] theorem rdIsX_3 {a x : Addr} {od : Option Addr} {c : Str} {cs : List D} {T : XTab} {μ : Sto} {Q : DK} : rdIsX a od c T [.ref x, .tup cs] μ Q = (x = a ∧ cs ≠ [] ∧ excHas od μ ∧ ∃ b, T.any c cs = some b ∧ Q (.bl b) μ) := rfl
section
variable {X : Cx} {a C : Addr} {od : Option Addr} {oe : Obj} {pn : List (Addr × Obj)} {x f c : Str} {e : Expr} {d : TED} {p pos : Pos}
/-- the name of a class of the module -/
theorem de_gl {X : Cx} {q : Str} {p : Pos} (hg : Gl X q) (hm : ∃ C, X.mg q = some (.ref C)) (hd : (q == ("__debug__" : Str)) = false := by decide) : DE X (.Name q p) (dC (.gl q)) := by
  obtain ⟨C, hm⟩ := hm
  exact de_c (pe_glob (v := .ref C) hg hm rfl hd) fun _ => .gl hm
/-- e.f, e the exception that the suite holds -/
@[simp] def dXf (a : Addr) (od : Option Addr) (c cB f : Str) (d : TED) : TED := fun ρ μ Q => d ρ μ fun x μ1 => x = .ref a ∧ c = cB ∧ ∃ dd fs v, od = some dd ∧ μ1 dd = some (.xd fs) ∧ fs.lookup f = some v ∧ Q v μ1
structure FldRd (K : PySem.W.Frag) (mg : Str → Option Value) (cB f : Str) : Prop where
  ex : ∃ C, mg cB = some (.ref C) ∧ XfC K C ∧ PySem.W.findIn K (.ref C) f = some none
theorem dts_lookup {K : PySem.W.Frag} {mg : Str → Option Value} {F : Hp} {f : Str} {v : D} : ∀ {vfs : List (Str × V)} {fs : List (Str × D)}, vfs.map (·.1) = fs.map (·.1) → Dts K mg F (vfs.map (·.2)) (fs.map (·.2)) → fs.lookup f = some v → ∃ w, vfs.lookup f = some w ∧ Dt K mg F w v
  | [], [], _, _, e => by cases e
  | [], _ :: _, e, _, _ => by cases e
  | _ :: _, [], e, _, _ => by cases e
  | (g, w) :: vfs, (g', v') :: fs, e, r, l => by
    rw [List.map_cons, List.map_cons] at e r
    obtain ⟨e1, e2⟩ := List.cons.inj e
    dsimp only at e1
    subst e1
    cases r with
    | cons r rs =>
      rw [List.lookup] at l ⊢
      split at l
      · cases l
        exact ⟨w, rfl, r⟩
      · exact dts_lookup e2 rs l
end
end DL

namespace DL
open PySem PySem.Spec PyProof.Rows L2
section
variable {P : Program} {w : World} {K : PySem.W.Frag} {mg : Str → Option Value} {base : Heap} {k : Nat} {f : Addr} {ps : List Str} {S : DSp}
end
section
variable {K : PySem.W.Frag} {mg : Str → Option Value} {C Q : Addr} {b : Bool}
theorem kit_sub (hd : PySem.W.hasDictIn K Q = true) (ht : PySem.W.typeIn K (.ref Q) = some (.type "type")) (hs : PySem.W.subIn K (.ref C) (.ref Q) = some b) (hz : PySem.W.subIn K (.ref C) (.ref C) = some true) : PySem.W.kitOne K (.ref C) (.ref Q) = some b := by
  unfold PySem.W.kitOne
  by_cases e : C = Q
  · subst e
    rw [hz] at hs
    cases hs
    rw [if_pos (by simp)]
  · rw [if_neg (by simpa using e)]
    unfold PySem.W.kitCls
    obtain ⟨cd, hc, _⟩ := PySem.W.any_some hd
    have e2 : ((PySem.W.clsIn K Q).isSome && PySem.W.typeIn K (.ref Q) == some (.type "type")) = true := by rw [hc, ht] <;> rfl
    dsimp only
    rw [if_pos e2]
    exact hs
theorem kit_subT {t : String} (hm : PySem.W.kitMeta t = true) (hs : PySem.W.subIn K (.ref C) (.type t) = some b) : PySem.W.kitOne K (.ref C) (.type t) = some b := by
  unfold PySem.W.kitOne
  rw [if_neg (by simp)]
  unfold PySem.W.kitCls
  dsimp only
  rw [if_pos hm]
  exact hs
end
section
variable {X : Cx} {x : Str} {k : Nat} {e : Expr} {es : List Expr} {t : TAD} {p pos : Pos} {S : DSp}
end
end DL

namespace DL
open PySem PySem.Spec PyProof.Rows L2
@[simp] def dStar (a : TED) (t : TAD) : TAD := fun ρ μ Q => a ρ μ fun x μ1 => match x with
  | .tup xs => t ρ μ1 fun ys μ2 => Q (xs ++ ys) μ2
  | .lst xs => t ρ μ1 fun ys μ2 => Q (xs ++ ys) μ2
  | _ => False
section
variable {X : Cx} {e : Expr} {es : List Expr} {da : TED} {t : TAD} {p : Pos}
end
def rngC (lo c : Int) (n : Nat) : List D := (List.range n).map fun k => .int (lo + (k : Nat) * c)
@[simp] def dRng3 (t : TAD) : TSrc := fun ρ μ Q => t ρ μ fun xs μ1 => match xs with
  | [.int i, .int j, .int c] => c = -1 ∧ rngOk i ∧ rngOk j ∧ Q (rngC i (-1) (i - j).toNat) still μ1
  | _ => False
section
variable {X : Cx} {tg e e2 e3 : Expr} {t : TAD} {p pos : Pos}
end
section
variable {X : Cx} {B : Bs}
@[simp] def dAugP (sl : Nat) (r : RD2) (i d : TED) : TSD := fun E ρ μ => ∃ xs, ρ[sl]? = some (some (.own xs)) ∧ i ρ μ fun k μ1 => ∃ n j x, k = .int n ∧ ixN xs.length n = some j ∧ xs[j]? = some x ∧ d ρ μ1 fun y μ2 => r x y μ2 fun z μ3 => E.nx (ρ.set sl (some (.own (xs.set j z)))) μ3
end
def rdIMul : RD2 := rdI (fun i j => (-18446744073709551616 < i ∧ i < 18446744073709551616) ∨ (-18446744073709551616 < j ∧ j < 18446744073709551616)) fun i j => .int (i * j)
@[simp] theorem rdIMul_i {i j : Int} {μ : Sto} {Q : DK} : rdIMul (.int i) (.int j) μ Q = (((-18446744073709551616 < i ∧ i < 18446744073709551616) ∨ (-18446744073709551616 < j ∧ j < 18446744073709551616)) ∧ Q (.int (i * j)) μ) := rfl
section
variable {X : Cx}
end
section
variable {X : Cx} {o e : Expr} {es : List Expr} {name : Str} {apos cpos : Pos} {id : String} {r : V → List V → Hp → VK → Prop} {rd : RDm} {to : TE} {t : TA} {d : TED} {ta : TAD}
@[simp] def dMtT (rd : RDm) (d : TED) (t : TAD) : TED := fun ρ μ Q => d ρ μ fun x μ1 => match x with
  | .tup xs => t ρ μ1 fun ys μ2 => rd (.tup xs) ys μ2 Q
  | _ => False
end
def rdIndexT : RDm
  | .tup xs, [.int k], μ, Q => ∃ (ns : List Int) (j : Nat), xs = ns.map D.int ∧ ns[j]? = some k ∧ (∀ m, m < j → ns[m]? ≠ some k) ∧ Q (.int j) μ
  | _, _, _, _ => False
def rdIndexL : RDm
  | .lst xs, [.int k], μ, Q => ∃ (ns : List Int) (j : Nat), xs = ns.map D.int ∧ ns[j]? = some k ∧ (∀ m, m < j → ns[m]? ≠ some k) ∧ Q (.int j) μ
  | _, _, _, _ => False
def rdIndexS : RDm
  | .str s, [.str [c]], μ, Q => ∃ j, s.findIdx? (· == c) = some j ∧ Q (.int j) μ
  | _, _, _, _ => False
@[simp] theorem rdIndexT_1 : rdIndexT (.tup xs) [.int k] μ Q = (∃ (ns : List Int) (j : Nat), xs = ns.map D.int ∧ ns[j]? = some k ∧ (∀ m, m < j → ns[m]? ≠ some k) ∧ Q (.int j) μ) := rfl
@[simp] theorem rdIndexL_1 : rdIndexL (.lst xs) [.int k] μ Q = (∃ (ns : List Int) (j : Nat), xs = ns.map D.int ∧ ns[j]? = some k ∧ (∀ m, m < j → ns[m]? ≠ some k) ∧ Q (.int j) μ) := rfl
@[simp] theorem rdIndexS_1 : rdIndexS (.str s) [.str [c]] μ Q = (∃ j, s.findIdx? (· == c) = some j ∧ Q (.int j) μ) := rfl
section
variable {K : PySem.W.Frag} {mg : Str → Option Value}
end
def rdDivmod : RDn
  | [.int i, .int j], μ, Q => divOk j ∧ Q (.pr (.int (i / j)) (.int (i % j))) μ
  | _, _, _ => False
@[simp] theorem rdDivmod_1 : rdDivmod [.int i, .int j] μ Q = (divOk j ∧ Q (.pr (.int (i / j)) (.int (i % j))) μ) := rfl
end DL

namespace DL
open PySem PySem.Spec PyProof.Rows L2
@[simp] def dAddF (a b : TED) : TFD := fun ρ μ Q => a ρ μ fun x μ1 => b ρ μ1 fun y μ2 => ∃ xs ys, x = .lst xs ∧ y = .lst ys ∧ xs.length + ys.length ≤ SZ ∧ Q (xs ++ ys) μ2
@[simp] def dMulF (a b : TED) : TFD := fun ρ μ Q => a ρ μ fun x μ1 => b ρ μ1 fun y μ2 => ∃ xs n, x = .lst xs ∧ y = .int n ∧ n ≤ 1000000 ∧ -1000000 ≤ n ∧ xs.length * n.toNat ≤ SZ ∧ Q (repl n.toNat xs) μ2
@[simp] def dListF (t : TAD) : TFD := fun ρ μ Q => t ρ μ fun ds μ1 => match ds with
  | [.tup xs] => Q xs μ1
  | [.lst xs] => Q xs μ1
  | _ => False
section
variable {X : Cx} {e f : Expr} {da db : TED} {pos p : Pos} {t : TAD}
end
def rdIAdd : RD2
  | .int i, .int j, μ, Q => Q (.int (i + j)) μ
  | .str s, .str t, μ, Q => s.length + t.length ≤ SZ ∧ Q (.str (s ++ t)) μ
  | _, _, _, _ => False
@[simp] theorem rdIAdd_1 : rdIAdd (.int i) (.int j) μ Q = Q (.int (i + j)) μ := rfl
@[simp] theorem rdIAdd_2 : rdIAdd (.str s) (.str t) μ Q = (s.length + t.length ≤ SZ ∧ Q (.str (s ++ t)) μ) := rfl
@[simp] def dPar4 (i j k l : Nat) (a b : TRD) (c d : TED) : TSD := fun E ρ μ => a ρ μ fun s μ1 => b ρ μ1 fun t μ2 => c ρ μ2 fun x μ3 => d ρ μ3 fun y μ4 => E.nx ((((ρ.set i (some s)).set j (some t)).set k (some (.val x))).set l (some (.val y))) μ4
section
variable {X : Cx} {B : Bs} {i j k l : Nat} {a b c d t1 t2 t3 t4 : Expr} {da db : TRD} {dc dd : TED} {pt pt2 pos : Pos} {kt k2 : Nat}
end
end DL

namespace DL
open PySem PySem.Spec PyProof.Rows L2
/-- the own lists of the frame are there -/
def Old (ρ : DEnv) (σ : L2.St) (H : Hp) : Prop := ∀ (j : Nat) (xs : List D) (p : Addr), ρ[j]? = some (some (DS.own xs)) → σ[j]? = some (some (V.ref p)) → H p ≠ none
theorem Old.of {K : PySem.W.Frag} {mg : Str → Option Value} {B : Bs} {F H : Hp} {μ : Sto} {ρ : DEnv} {σ : L2.St} (R : RelB K mg B F ρ μ σ H) : Old ρ σ H := fun j xs p z1 z2 => by
  obtain ⟨p2, vs, c1, c2, c3, c4, _⟩ := R.ownAt z1
  rw [c1] at z2
  cases z2
  rw [c4]
  exact fun z => nomatch z
theorem Old.own {K : PySem.W.Frag} {mg : Str → Option Value} {B : Bs} {F F1 H H1 : Hp} {μ μ1 : Sto} {ρ : DEnv} {σ : L2.St} (R : RelB K mg B F ρ μ σ H) (e : Ext F μ H F1 μ1 H1) : Old ρ σ H1 := fun j xs p z1 z2 => by
  obtain ⟨p2, vs, c1, c2, c3, c4, _⟩ := R.ownAt z1
  rw [c1] at z2
  cases z2
  rw [(e.keep p _ c4 c3).1]
  exact fun z => nomatch z
theorem Old.set {K : PySem.W.Frag} {mg : Str → Option Value} {F H0 H H2 : Hp} {μ : Sto} {ρ : DEnv} {σ : L2.St} {i : Nat} {v : V} {s : DS} (h : Old ρ σ H2) (hl : ρ.length = σ.length) (w : ROk K mg H0 F μ H v s) (hk : ∀ p, H p ≠ none → H0 p = none → H2 p ≠ none) :
    Old (ρ.set i (some s)) (σ.set i (some v)) H2 := fun j xs p z1 z2 => by
  by_cases hj : i = j
  · subst hj
    have hi : i < ρ.length := by
      have := (List.getElem?_eq_some_iff.mp z1).1
      rwa [List.length_set] at this
    rw [List.getElem?_set_self hi] at z1
    cases z1
    obtain ⟨p2, vs, rfl, c1, c2, c3, c4, c5⟩ := w
    rw [List.getElem?_set_self (by rw [← hl]; exact hi)] at z2
    cases z2
    exact hk _ (by rw [c4]; exact fun z => nomatch z) c1
  · rw [List.getElem?_set_ne hj] at z1 z2
    exact h j xs p z1 z2
theorem Old.ext {F F' H H' : Hp} {μ μ' : Sto} {ρ : DEnv} {σ : L2.St} (h : Old ρ σ H) (e : Ext F μ H F' μ' H') : Old ρ σ H' := fun j xs p z1 z2 z => h j xs p z1 z2 (e.live p z)
/-- x, y, z = a, b, c: results -/
@[simp] def dParR (i j l : Nat) (a b c : TRD) : TSD := fun E ρ μ => a ρ μ fun s μ1 => b ρ μ1 fun t μ2 => c ρ μ2 fun u μ3 => E.nx (((ρ.set i (some s)).set j (some t)).set l (some u)) μ3
section
variable {X : Cx} {B : Bs} {i j l : Nat} {a b c : Expr} {da db dc : TRD} {pos : Pos} {kt k2 : Nat}
end
end DL

namespace DL
open PySem PySem.Spec PyProof.Rows L2
section
variable {X : Cx} {B : Bs} {i j : Nat} {a b : Expr} {da db : TRD} {pos : Pos} {kt k2 : Nat}
end
end DL

namespace DL
open PySem PySem.Spec PyProof.Rows L2
def keyPy : Key → PyData
  | .inl i => .int i
  | .inr s => .str s
mutual
/-- data at a value, dicts with them -/
inductive Dq (K : PySem.W.Frag) (H : Hp) : V → PyData → Prop
  | non : Dq K H .non .none
  | bl (b : Bool) : Dq K H (.bl b) (.bool b)
  | int (i : Int) : Dq K H (.int i) (.int i)
  | str (x : Str) : Dq K H (.str x) (.str x)
  | lst {a : Addr} {xs : List V} {ds : List PyData} : SqL K H a xs → DqAll K H xs ds → Dq K H (.ref a) (.list ds)
  | tup {a : Addr} {xs : List V} {ds : List PyData} : SqT K H a xs → DqAll K H xs ds → Dq K H (.ref a) (.tuple ds)
  | dct {a : Addr} {kvs : List (Key × V)} {ds : List (PyData × PyData)} : H a = some (.dK kvs) → DqKv K H kvs ds → Dq K H (.ref a) (.dict ds)
inductive DqAll (K : PySem.W.Frag) (H : Hp) : List V → List PyData → Prop
  | nil : DqAll K H [] []
  | cons {v : V} {vs : List V} {d : PyData} {ds : List PyData} : Dq K H v d → DqAll K H vs ds → DqAll K H (v :: vs) (d :: ds)
inductive DqKv (K : PySem.W.Frag) (H : Hp) : List (Key × V) → List (PyData × PyData) → Prop
  | nil : DqKv K H [] []
  | cons {k : Key} {v : V} {kvs : List (Key × V)} {d : PyData} {ds : List (PyData × PyData)} : Dq K H v d → DqKv K H kvs ds → DqKv K H ((k, v) :: kvs) ((keyPy k, d) :: ds)
end
section
variable {X : Cx} {pins : List (Addr × Obj)} {σ : L2.St} {H : Hp} {s : Shared}
theorem keys_read {P : Program} {w : World} {h : Heap} : ∀ {es : List DictEntry} {kvs : List (Key × Value)}, Pairs (mixKind P w) es kvs → ReadsAll h (es.map (·.key)) (kvs.map fun kv => keyPy kv.1) []
  | _, _, .nil => .nil
  | _, _, .cons (e := e) (kv := kv) h1 _ r => by
    have ih := keys_read (h := h) r
    have one : Reads h e.key (keyPy kv.1) [] := by
      obtain ⟨k, v⟩ := kv
      rcases keyIs_shape h1 with ⟨i, t, e1, e2⟩ | ⟨x, t, e1, e2⟩
      · dsimp only at e1
        subst e1
        rw [e2]
        exact .int i t
      · dsimp only at e1
        subst e1
        rw [e2]
        exact .str x t
    exact .cons (as := []) (bs := []) one ih
theorem vals_are {P : Program} {w : World} : ∀ {es : List DictEntry} {kvs : List (Key × Value)}, Pairs (mixKind P w) es kvs → es.map (·.val) = kvs.map (·.2)
  | _, _, .nil => rfl
  | _, _, .cons _ h2 r => by rw [List.map_cons, List.map_cons, h2, vals_are r]
/-- what is read of a value, and how it is shown -/
def RP (P : Program) (w : World) (h : Heap) (v : Value) (d : PyData) : Prop := ∃ as bs, Reads h v d as ∧ ReadAtMost h d.depth bs ∧ ReprK P w bs h d.depth v d.shown
def RPA (P : Program) (w : World) (h : Heap) (vs : List Value) (ds : List PyData) : Prop := ∃ as bs, ReadsAll h vs ds as ∧ ReadAtMost h (PyData.depthAll ds) bs ∧ ReprAllK P w bs h (PyData.depthAll ds) vs (PyData.shownAll ds)
theorem rp_flat {P : Program} {w : World} {h : Heap} {v : Value} {d : PyData} (r : Reads h v d []) (hs : d.showable = true) (hz : d.shown.length ≤ sizeLine) : RP P w h v d := by
  obtain ⟨bs, h1, h2⟩ := ReprK.of_reads (prog := P) (w := w) r hs (fun _ z => nomatch z) hz
  exact ⟨[], bs, r, h1, h2⟩
theorem rpa_nil {P : Program} {w : World} {h : Heap} : RPA P w h [] [] := ⟨[], [], .nil, (fun _ z => nomatch z), .nil⟩
theorem rpa_cons {P : Program} {w : World} {h : Heap} {v : Value} {vs : List Value} {d : PyData} {ds : List PyData} (r : RP P w h v d) (rs : RPA P w h vs ds) : RPA P w h (v :: vs) (d :: ds) := by
  obtain ⟨as, b1, q1, m1, k1⟩ := r
  obtain ⟨cs, b2, q2, m2, k2⟩ := rs
  have l1 : d.depth ≤ PyData.depthAll (d :: ds) := Nat.le_max_left _ _
  have l2 : PyData.depthAll ds ≤ PyData.depthAll (d :: ds) := Nat.le_max_right _ _
  exact ⟨as ++ cs, b1 ++ b2, .cons q1 q2, (m1.mono l1).append (m2.mono l2), .cons ((k1.more fun b z => List.mem_append_left _ z).level_le l1) (k2.more_le (fun b z => List.mem_append_right _ z) l2)⟩
theorem deeper {h : Heap} {a : Addr} {d : PyData} {as bs : List Addr} {n : Nat} (r : Reads h (.ref a) d as) (hn : n < d.depth) (m : ReadAtMost h n bs) : a ∉ bs := not_mem_of_deeper r hn m
theorem rp_list {P : Program} {w : World} {h : Heap} {a : Addr} {o : Obj} {vs : Array Value} {n : Nat} {ds : List PyData} (h1 : h.get? a = some o) (h2 : o.cls = .type "list") (h3 : o.data = .seq vs n) (rs : RPA P w h vs.toList ds) : RP P w h (.ref a) (.list ds) := by
  obtain ⟨as, bs, q, m, k⟩ := rs
  have r : Reads h (.ref a) (.list ds) (a :: as) := Reads.list h1 h2 h3 q
  have lt : PyData.depthAll ds < (PyData.list ds).depth := by show _ < PyData.depthAll ds + 1; omega
  have hna := deeper r lt m
  refine ⟨_, a :: bs, r, ReadAtMost.cons r (Nat.le_refl _) (m.mono (Nat.le_of_lt lt)), ?_⟩
  show ReprK P w (a :: bs) h (PyData.depthAll ds + 1) (.ref a) (listText (PyData.shownAll ds))
  obtain ⟨l⟩ := vs
  cases l with
  | nil =>
    cases (show ReadsAll h [] ds as from q)
    show ReprK P w (a :: bs) h _ (.ref a) (listText [])
    rw [listText_nil]; exact ReprK.listEmpty h1 h2 h3
  | cons x l => exact ReprK.list h1 h2 h3 hna (by simpa using k.length_eq) fun i y e => k.item i y (by simpa using e)
theorem rp_tuple {P : Program} {w : World} {h : Heap} {a : Addr} {o : Obj} {vs : Array Value} {n : Nat} {ds : List PyData} (h1 : h.get? a = some o) (h2 : o.cls = .type "tuple") (h3 : o.data = .seq vs n) (rs : RPA P w h vs.toList ds) : RP P w h (.ref a) (.tuple ds) := by
  obtain ⟨as, bs, q, m, k⟩ := rs
  have r : Reads h (.ref a) (.tuple ds) as := Reads.tuple h1 h2 h3 q
  have lt : PyData.depthAll ds < (PyData.tuple ds).depth := by show _ < PyData.depthAll ds + 1; omega
  have hna := deeper r lt m
  exact ⟨_, a :: bs, r, ReadAtMost.cons r (Nat.le_refl _) (m.mono (Nat.le_of_lt lt)), ReprK.tuple h1 h2 h3 hna k⟩
theorem rp_dict {P : Program} {w : World} {h : Heap} {a : Addr} {o : Obj} {es : Array DictEntry} {n : Nat} {kvs : List (PyData × PyData)} (h1 : h.get? a = some o) (h2 : o.cls = .type "dict") (h3 : o.data = .dict es n) (hn : (a == sysModules) = false)
    (rk : RPA P w h (es.toList.map (·.key)) (kvs.map (·.1))) (rv : RPA P w h (es.toList.map (·.val)) (kvs.map (·.2))) : RP P w h (.ref a) (.dict kvs) := by
  obtain ⟨as, b1, q1, m1, k1⟩ := rk
  obtain ⟨cs, b2, q2, m2, k2⟩ := rv
  have r : Reads h (.ref a) (.dict kvs) (a :: as ++ cs) := Reads.dict h1 h2 h3 q1 q2
  have lt : PyData.depthKv kvs < (PyData.dict kvs).depth := by show _ < PyData.depthKv kvs + 1; omega
  have m := (m1.mono (PyData.depthAll_keys_le kvs)).append (m2.mono (PyData.depthAll_vals_le kvs))
  have hna := deeper r lt m
  refine ⟨_, a :: (b1 ++ b2), r, ReadAtMost.cons r (Nat.le_refl _) (m.mono (Nat.le_of_lt lt)), ?_⟩
  show ReprK P w (a :: (b1 ++ b2)) h (PyData.depthKv kvs + 1) (.ref a) (dictText (PyData.shownKv kvs))
  rw [PyData.shownKv_eq]
  exact ReprK.dict h1 h2 h3 hn hna (ReprEntriesK.of_two es.toList _ _ (k1.more_le (fun b z => List.mem_append_left _ z) (PyData.depthAll_keys_le kvs)) (k2.more_le (fun b z => List.mem_append_right _ z) (PyData.depthAll_vals_le kvs)))
/-- texts of texts are small -/
def Fits (d : PyData) : Prop := d.showable = true ∧ d.shown.length ≤ sizeLine
def FitsAll (ds : List PyData) : Prop := PyData.showableAll ds = true ∧ ∀ t ∈ PyData.shownAll ds, t.length ≤ sizeLine
theorem Fits.list {ds : List PyData} (h : Fits (.list ds)) : FitsAll ds := ⟨h.1, fun t ht => Nat.le_trans (listText_mem_le ht) h.2⟩
theorem Fits.tuple {ds : List PyData} (h : Fits (.tuple ds)) : FitsAll ds := ⟨h.1, fun t ht => Nat.le_trans (tupleText_mem_le ht) h.2⟩
theorem FitsAll.head {d : PyData} {ds : List PyData} (h : FitsAll (d :: ds)) : Fits d := ⟨(Bool.and_eq_true_iff.mp h.1).1, h.2 _ (List.mem_cons_self ..)⟩
theorem FitsAll.tail {d : PyData} {ds : List PyData} (h : FitsAll (d :: ds)) : FitsAll ds := ⟨(Bool.and_eq_true_iff.mp h.1).2, fun t ht => h.2 t (List.mem_cons_of_mem _ ht)⟩
theorem Fits.dict {kvs : List (PyData × PyData)} (h : Fits (.dict kvs)) : FitsAll (kvs.map (·.1)) ∧ FitsAll (kvs.map (·.2)) := by
  obtain ⟨a, b⟩ := PyData.showableKv_split kvs h.1
  refine ⟨⟨a, fun t ht => ?_⟩, b, fun t ht => ?_⟩
  · obtain ⟨p, hp, hl⟩ := PyData.shownKv_key_le kvs t ht
    exact Nat.le_trans hl (Nat.le_trans (dictText_mem_le hp) h.2)
  · obtain ⟨p, hp, hl⟩ := PyData.shownKv_val_le kvs t ht
    exact Nat.le_trans hl (Nat.le_trans (dictText_mem_le hp) h.2)
theorem rpa_keys {P : Program} {w : World} {h : Heap} : ∀ {ks : List Value} {ds : List PyData}, ReadsAll h ks ds [] → FitsAll ds → RPA P w h ks ds := fun {ks ds} r f => by
  obtain ⟨bs, h1, h2⟩ := ReprAllK.of_readsAll (prog := P) (w := w) r f.1 (fun _ z => nomatch z) f.2
  exact ⟨[], bs, r, h1, h2⟩
mutual
theorem Dq.rp (I : Inv X pins σ H s) : ∀ (d : PyData) (v : V) (u : Value), Dq X.K H v d → RelV v u → Fits d → RP X.prog X.w s.heap u d
  | .none, _, _, h, r, f => by
    cases h
    cases r
    exact rp_flat .none f.1 f.2
  | .bool b, _, _, h, r, f => by
    cases h
    cases r
    exact rp_flat (.bool b) f.1 f.2
  | .int i, _, _, h, r, f => by
    cases h
    obtain ⟨t, rfl⟩ := r
    exact rp_flat (.int i t) f.1 f.2
  | .str x, _, _, h, r, f => by
    cases h
    obtain ⟨t, rfl⟩ := r
    exact rp_flat (.str x t) f.1 f.2
  | .list ds, _, _, h, r, f => by
    cases h with
    | lst hs ha =>
      cases r
      obtain ⟨its, rv, ⟨o, n, ho, hc, _, hd⟩, _⟩ := I.list hs
      exact rp_list ho hc hd (by simpa using Dq.rpa I ds _ its ha rv f.list)
  | .tuple ds, _, _, h, r, f => by
    cases h with
    | tup hs ha =>
      cases r
      obtain ⟨its, rv, ⟨o, ho, hc, n, hd⟩, _⟩ := I.tuple hs
      exact rp_tuple ho hc hd (by simpa using Dq.rpa I ds _ its ha rv f.tuple)
  | .dict ds, _, _, h, r, f => by
    cases h with
    | dct he ha =>
      cases r
      obtain ⟨_, hns, vs, kv, o, es, ep, ho, hx, hd, hk, hp, _⟩ := dk_of I.hok he
      obtain ⟨ek, rv⟩ := Dq.rpv I ds _ vs ha kv f.dict.2
      have r1 := keys_read (h := s.heap) hp
      rw [ek] at r1
      exact rp_dict ho hx.1 hd hns (rpa_keys r1 f.dict.1) (by rw [vals_are hp]; exact rv)
theorem Dq.rpa (I : Inv X pins σ H s) : ∀ (ds : List PyData) (vs : List V) (us : List Value), DqAll X.K H vs ds → Vals vs us → FitsAll ds → RPA X.prog X.w s.heap us ds
  | [], _, _, h, r, f => by
    cases h
    cases r
    exact rpa_nil
  | d :: ds, _, _, h, r, f => by
    cases h with
    | cons h1 h2 =>
      cases r with
      | cons r1 r2 => exact rpa_cons (Dq.rp I d _ _ h1 r1 f.head) (Dq.rpa I ds _ _ h2 r2 f.tail)
theorem Dq.rpv (I : Inv X pins σ H s) : ∀ (ds : List (PyData × PyData)) (kvs : List (Key × V)) (vs : List (Key × Value)), DqKv X.K H kvs ds → KV kvs vs → FitsAll (ds.map (·.2)) → (vs.map fun kv => keyPy kv.1) = ds.map (·.1) ∧ RPA X.prog X.w s.heap (vs.map (·.2)) (ds.map (·.2))
  | [], _, _, h, r, f => by
    cases h
    cases r
    exact ⟨rfl, rpa_nil⟩
  | d :: ds, _, _, h, r, f => by
    cases h with
    | cons h1 h2 =>
      cases r with
      | cons r1 r2 =>
        obtain ⟨e2, q2⟩ := Dq.rpv I ds _ _ h2 r2 f.tail
        refine ⟨?_, rpa_cons (Dq.rp I _ _ _ h1 r1.2 f.head) q2⟩
        rw [List.map_cons, List.map_cons, e2, ← r1.1]
end
end
/-- the repr of an object, by its own rule -/
theorem call_rp {P : Program} {w : World} {A : Around} {E : Value → Shared → Prop} {s : Shared} {a : Addr} {d : PyData} {T idr : String} {Q : Value → Shared → Prop} (S : ShowsBy P w s.heap a d T idr) (hg : A.guards = some []) (hu : A.units + (d.depth + 1) < cLine)
    (hQ : ∀ h' u tk, (∀ b o, s.heap.get? b = some o → h'.get? b = some o) → Q (.str d.shown u) { s with heap := h', toks := tk }) : wpAny (model P w) A (call (.builtin "repr") [.ref a]) Q E s :=
  call_repr_slot (by omega) (S.typeIs s fun _ _ e => e) S.slotRepr (S.call A.in1 E s _ hg (show A.units + 1 + d.depth < cLine by omega) (fun _ _ e => e) fun h' u tk hk => ⟨_, _, rfl, hQ h' u tk hk⟩)
theorem shows_list {P : Program} {w : World} {h : Heap} {a : Addr} {o : Obj} {vs : Array Value} {n : Nat} {ds : List PyData} (h1 : h.get? a = some o) (h2 : o.cls = .type "list") (h3 : o.data = .seq vs n) (rs : RPA P w h vs.toList ds) (f : Fits (.list ds)) : ShowsBy P w h a (.list ds) "list" "list.__repr__" := by
  obtain ⟨as, bs, q, m, k⟩ := rs
  have lt : PyData.depthAll ds < (PyData.list ds).depth := by show _ < PyData.depthAll ds + 1; omega
  have hna := deeper (Reads.list h1 h2 h3 q) lt m
  refine ⟨F.slot_list_repr.toG, F.slot_list_str, F.slot_list_format, fun s hk => ⟨o, hk _ _ h1, h2⟩, fun A E s Q hg hu hk hQ => ?_⟩
  have hu' : A.units + (PyData.depthAll ds + 1) < cLine := hu
  obtain ⟨l⟩ := vs
  cases l with
  | nil =>
    cases (show ReadsAll h [] ds as from q)
    refine call_list_repr_empty ⟨o, hk _ _ h1, h2⟩ (hk _ _ h1) h3 ?_
    have := hQ s.heap
    rw [show (PyData.list []).shown = "[]" from listText_nil] at this
    exact this _ _ fun _ _ e => e
  | cons x l => exact call_list_reprK h1 h2 h3 hna (by simpa using k.length_eq) (fun i y e => k.item i y (by simpa using e)) hg (fun b _ => Clear.nil b) hu' hk hQ f.2
theorem shows_tuple {P : Program} {w : World} {h : Heap} {a : Addr} {o : Obj} {vs : Array Value} {n : Nat} {ds : List PyData} (h1 : h.get? a = some o) (h2 : o.cls = .type "tuple") (h3 : o.data = .seq vs n) (rs : RPA P w h vs.toList ds) (f : Fits (.tuple ds)) : ShowsBy P w h a (.tuple ds) "tuple" "tuple.__repr__" := by
  obtain ⟨as, bs, q, m, k⟩ := rs
  have lt : PyData.depthAll ds < (PyData.tuple ds).depth := by show _ < PyData.depthAll ds + 1; omega
  have hna := deeper (Reads.tuple h1 h2 h3 q) lt m
  exact ⟨F.slot_tuple_repr, F.slot_tuple_str, F.slot_tuple_format, fun s hk => ⟨o, hk _ _ h1, h2⟩, fun A E s Q hg hu hk hQ => call_tuple_reprK h1 h2 h3 hna k hg (fun b _ => Clear.nil b) (show A.units + (PyData.depthAll ds + 1) < cLine from hu) hk hQ f.2⟩
theorem shows_dict {P : Program} {w : World} {h : Heap} {a : Addr} {o : Obj} {es : Array DictEntry} {n : Nat} {kvs : List (PyData × PyData)} (h1 : h.get? a = some o) (h2 : o.cls = .type "dict") (h3 : o.data = .dict es n) (hn : (a == sysModules) = false)
    (rk : RPA P w h (es.toList.map (·.key)) (kvs.map (·.1))) (rv : RPA P w h (es.toList.map (·.val)) (kvs.map (·.2))) (f : Fits (.dict kvs)) : ShowsBy P w h a (.dict kvs) "dict" "dict.__repr__" := by
  obtain ⟨as, b1, q1, m1, k1⟩ := rk
  obtain ⟨cs, b2, q2, m2, k2⟩ := rv
  have lt : PyData.depthKv kvs < (PyData.dict kvs).depth := by show _ < PyData.depthKv kvs + 1; omega
  have hna := deeper (Reads.dict h1 h2 h3 q1 q2) lt ((m1.mono (PyData.depthAll_keys_le kvs)).append (m2.mono (PyData.depthAll_vals_le kvs)))
  refine ⟨F.slot_dict_repr, F.slot_dict_str, F.slot_dict_format, fun s hk => ⟨o, hk _ _ h1, h2⟩, fun A E s Q hg hu hk hQ => ?_⟩
  have hQ' : ∀ h' u tk, (∀ b o, s.heap.get? b = some o → h'.get? b = some o) → Q (.str (dictText (PyData.shownKv kvs)) u) { s with heap := h', toks := tk } := hQ
  have fz : (dictText (PyData.shownKv kvs)).length ≤ sizeLine := f.2
  rw [PyData.shownKv_eq] at hQ' fz
  exact call_dict_reprK h1 h2 h3 hn hna (ReprEntriesK.of_two es.toList _ _ (k1.more_le (fun b z => List.mem_append_left _ z) (PyData.depthAll_keys_le kvs)) (k2.more_le (fun b z => List.mem_append_right _ z) (PyData.depthAll_vals_le kvs))) hg (fun b _ => Clear.nil b) (show A.units + (PyData.depthKv kvs + 1) < cLine from hu) hk hQ' fz
section
variable {X : Cx} {pins : List (Addr × Obj)} {σ : L2.St} {H : Hp} {s : Shared}
theorem Dq.shows (I : Inv X pins σ H s) {d : PyData} {a : Addr} (h : Dq X.K H (.ref a) d) (f : Fits d) : ∃ T idr, ShowsBy X.prog X.w s.heap a d T idr := by
  cases h with
  | lst hs ha =>
    obtain ⟨its, rv, ⟨o, n, ho, hc, _, hd⟩, _⟩ := I.list hs
    exact ⟨_, _, shows_list ho hc hd (by simpa using Dq.rpa I _ _ its ha rv f.list) f⟩
  | tup hs ha =>
    obtain ⟨its, rv, ⟨o, ho, hc, n, hd⟩, _⟩ := I.tuple hs
    exact ⟨_, _, shows_tuple ho hc hd (by simpa using Dq.rpa I _ _ its ha rv f.tuple) f⟩
  | dct he ha =>
    obtain ⟨_, hns, vs, kv, o, es, ep, ho, hx, hd, hk, hp, _⟩ := dk_of I.hok he
    obtain ⟨ek, rv⟩ := Dq.rpv I _ _ vs ha kv f.dict.2
    have r1 := keys_read (h := s.heap) hp
    rw [ek] at r1
    exact ⟨_, _, shows_dict ho hx.1 hd hns (rpa_keys r1 f.dict.1) (by rw [vals_are hp]; exact rv) f⟩
end
mutual
def D.pyO : D → PyData
  | .non => .none
  | .bl b => .bool b
  | .int i => .int i
  | .str x => .str (S x)
  | .tup xs => .tuple (D.pysO xs)
  | .lst xs => .list (D.pysO xs)
  | .dct kvs => .dict (D.kvsO kvs)
  | _ => .none
def D.pysO : List D → List PyData
  | [] => []
  | x :: xs => x.pyO :: D.pysO xs
def D.kvsO : List (Key × D) → List (PyData × PyData)
  | [] => []
  | (k, v) :: r => (keyPy k, v.pyO) :: D.kvsO r
end
mutual
/-- plain data, dicts with them -/
def D.plain : D → Bool
  | .non => true
  | .bl _ => true
  | .int _ => true
  | .str _ => true
  | .tup xs => D.plains xs
  | .lst xs => D.plains xs
  | .dct kvs => D.plainKv kvs
  | _ => false
def D.plains : List D → Bool
  | [] => true
  | x :: xs => x.plain && D.plains xs
def D.plainKv : List (Key × D) → Bool
  | [] => true
  | (_, v) :: r => v.plain && D.plainKv r
end
section
variable {K : PySem.W.Frag} {mg : Str → Option Value} {F H : Hp} {μ : Sto}
mutual
theorem Dt.dq (hF : ∀ a o, F a = some o → H a = some o) : ∀ {v : V} {d : D}, Dt K mg F v d → d.plain = true → Dq K H v d.pyO
  | _, _, .non, _ => .non
  | _, _, .bl b, _ => .bl b
  | _, _, .int i, _ => .int i
  | _, _, .str x, _ => .str (S x)
  | _, _, .tup h r, q => .tup (SqT.mono' hF h.sq) (Dts.dq hF r q)
  | _, _, .lst h r, q => .lst (.inl (.inl (hF _ _ h))) (Dts.dq hF r q)
  | _, _, .dct h r, q => .dct (hF _ _ h) (Dks.dq hF r q)
  | _, _, .scr _, q => nomatch q
  | _, _, .ref _, q => nomatch q
  | _, _, .ty _, q => nomatch q
  | _, _, .gl _, q => nomatch q
  | _, _, .pr _ _ _, q => nomatch q
  | _, _, .obj _ _ _ _, q => nomatch q
  | _, _, .exn0 _ _ _ _, q => nomatch q
  | _, _, .exn1 _ _ _ _ _ _ _, q => nomatch q
theorem Dts.dq (hF : ∀ a o, F a = some o → H a = some o) : ∀ {vs : List V} {ds : List D}, Dts K mg F vs ds → D.plains ds = true → DqAll K H vs (D.pysO ds)
  | _, _, .nil, _ => .nil
  | _, _, .cons h r, q => .cons (Dt.dq hF h (Bool.and_eq_true_iff.mp q).1) (Dts.dq hF r (Bool.and_eq_true_iff.mp q).2)
theorem Dks.dq (hF : ∀ a o, F a = some o → H a = some o) : ∀ {vs : List (Key × V)} {ds : List (Key × D)}, Dks K mg F vs ds → D.plainKv ds = true → DqKv K H vs (D.kvsO ds)
  | _, _, .nil, _ => .nil
  | _, _, .cons h r, q => .cons (Dt.dq hF h (Bool.and_eq_true_iff.mp q).1) (Dks.dq hF r (Bool.and_eq_true_iff.mp q).2)
end
theorem Wk.dq (o : Ok K mg F μ H) {v : V} {d : D} (h : Wk K mg F μ H v d) (q : d.plain = true) : Dq K H v d.pyO := by
  rcases h with h | ⟨a, vs, xs, rfl, rfl, f, m, hh, r⟩
  · exact Dt.dq o.sub h q
  · exact .lst (.inl (.inl hh)) (Dts.dq o.sub r q)
end
/-- the text of repr -/
def D.repO (d : D) : List Nat := d.pyO.shown.cps.toList
def repOkB (d : D) : Bool := d.plain && d.pyO.showable && decide (d.pyO.depth ≤ 50) && decide (d.repO.length ≤ SZ)
def repOkO (d : D) : Prop := repOkB d = true
def rdReprO : RDn
  | [d], μ, Q => repOkO d ∧ Q (.str d.repO) μ
  | _, _, _ => False
@[simp] theorem rdReprO_1 {d : D} {μ : Sto} {Q : DK} : rdReprO [d] μ Q = (repOkO d ∧ Q (.str d.repO) μ) := rfl
def rReprO (K : PySem.W.Frag) : List V → Hp → VK → Prop := fun xs H Q => ∃ x d, xs = [x] ∧ Dq K H x d ∧ d.showable = true ∧ d.depth ≤ 50 ∧ d.shown.length ≤ sizeLine ∧ Q (.str d.shown) H
theorem call_reprO {X : Cx} (quiet : Quiet X.A) (hu : X.A.units + 64 < cLine) : CallR X (.builtin "repr") (rReprO X.K) := by
  intro pins s σ H xs us Q I r h
  obtain ⟨x, d, rfl, hd, hs, hdep, hsz, q⟩ := h
  obtain ⟨u, rfl, ru⟩ := Vals.one r
  have done : ∀ (tk : Nat) (t : Tok), EP X pins σ Q (.str d.shown t) { s with toks := tk } := fun tk t => ⟨.str d.shown, H, I.tok _, ⟨_, rfl⟩, q⟩
  have big : ∀ {a : Addr}, x = .ref a → u = .ref a → wpAny (model X.prog X.w) X.A (call (.builtin "repr") [u]) (EP X pins σ Q) X.xe s := fun {a} e1 e2 => by
    subst e1 e2
    obtain ⟨T, idr, S⟩ := Dq.shows I hd ⟨hs, hsz⟩
    exact call_rp S quiet (by omega) fun h' t tk keep => ⟨.str _, H, I.kept keep, ⟨_, rfl⟩, q⟩
  cases hd with
  | non => cases ru; exact PySem.P.repr_of_none (done _ _)
  | bl b => cases ru; exact PySem.P.repr_of_bool (done _ _)
  | int i => obtain ⟨t, rfl⟩ := ru; exact PySem.P.repr_of_int (of_decide_eq_true hs) (done _ _)
  | str z => obtain ⟨t, rfl⟩ := ru; exact PySem.P.repr_of_str (done _ _) hsz
  | lst h1 h2 => exact big rfl ru
  | tup h1 h2 => exact big rfl ru
  | dct h1 h2 => exact big rfl ru
theorem cs_reprO {K : PySem.W.Frag} {mg : Str → Option Value} : CallS K mg (rReprO K) rdReprO := by
  intro F μ H vs ds Qd Q o w h k
  unfold rdReprO at h
  split at h
  · obtain ⟨v, rfl, wk⟩ := w.one
    obtain ⟨h, q⟩ := h
    unfold repOkO repOkB at h
    simp only [Bool.and_eq_true, decide_eq_true_eq] at h
    obtain ⟨⟨⟨h1, h2⟩, h3⟩, h4⟩ := h
    refine ⟨v, _, rfl, wk.dq o h1, h2, h3, by rw [sizeLine_eq, ← S_of (D.pyO _).shown, S_len]; exact h4, ?_⟩
    have := fin0 o k (.str (D.repO _)) q
    unfold D.repO at this
    rw [S_of] at this
    exact this
  · exact h.elim
mutual
theorem D.flat_plain : ∀ d : D, d.flat = true → d.plain = true ∧ d.pyO = d.py
  | .non, _ => ⟨rfl, rfl⟩
  | .bl _, _ => ⟨rfl, rfl⟩
  | .int _, _ => ⟨rfl, rfl⟩
  | .str _, _ => ⟨rfl, rfl⟩
  | .tup xs, h => by
    obtain ⟨a, b⟩ := D.flats_plain xs h
    exact ⟨a, congrArg PyData.tuple b⟩
  | .lst xs, h => by
    obtain ⟨a, b⟩ := D.flats_plain xs h
    exact ⟨a, congrArg PyData.list b⟩
  | .dct _, h => nomatch h
  | .scr _, h => nomatch h
  | .ref _, h => nomatch h
  | .ty _, h => nomatch h
  | .gl _, h => nomatch h
  | .pr _ _, h => nomatch h
  | .obj _ _, h => nomatch h
  | .exn _ _, h => nomatch h
theorem D.flats_plain : ∀ ds : List D, D.flats ds = true → D.plains ds = true ∧ D.pysO ds = D.pys ds
  | [], _ => ⟨rfl, rfl⟩
  | x :: xs, h => by
    have h' := Bool.and_eq_true_iff.mp h
    obtain ⟨a1, a2⟩ := D.flat_plain x h'.1
    obtain ⟨b1, b2⟩ := D.flats_plain xs h'.2
    refine ⟨?_, ?_⟩
    · show (x.plain && D.plains xs) = true
      rw [a1, b1]; rfl
    · show x.pyO :: D.pysO xs = x.py :: D.pys xs
      rw [a2, b2]
end
section
variable {X : Cx} {pos : Pos}
theorem de_dict0 : DE X (.Dict [] [] pos) (dC (.dct [])) := pe_dnewK.weaken fun σ H Q q => by
  obtain ⟨F, ρ, μ, Qd, R, hd, k⟩ := q
  intro p hp
  obtain ⟨o2, e2⟩ := R.ok.lay hp (.dK [])
  exact k _ _ μ _ _ e2 o2 (.dct upd_same .nil) hd
/-- {'a': 0} -/
theorem de_dict1 {s : List Nat} {x : Str} {i : Int} {j1 j2 : Nat} {p1 p2 : Pos} (hx : x = S s) : DE X (.Dict [some (.Constant (.str x) j1 p1)] [.Constant (.int i) j2 p2] pos) (dC (.dct [(.inr (S s), .int i)])) := by
  subst hx
  refine (pe_disp (pps_cons pe_str pe_int pps_nil) rfl rfl (fun z => by cases z) (show 1 ≤ 15 by omega)).weaken fun σ H Q q => ?_
  obtain ⟨F, ρ, μ, Qd, R, hd, k⟩ := q
  intro p hp
  refine ⟨upd_same, [(.inr (S s), .int i)], rfl, show 1 ≤ 15 by omega, ?_⟩
  have e : upd (upd H p (.dK [])) p (.dK (mergeK [] [((.inr (S s) : Key), V.int i)])) = upd H p (.dK [(.inr (S s), V.int i)]) := by
    funext b
    by_cases hb : b = p
    · subst hb; rw [upd_same, upd_same]; rfl
    · rw [upd_ne hb, upd_ne hb, upd_ne hb]
  rw [e]
  obtain ⟨o2, e2⟩ := R.ok.lay hp (.dK [(.inr (S s), V.int i)])
  exact k _ _ μ _ _ e2 o2 (.dct upd_same (.cons (.int i) .nil)) hd
end
end DL

namespace DL
open PySem PySem.Spec PyProof.Rows L2
mutual
/-- like ic, with small integers -/
def D.sm : D → Prop
  | .non => True
  | .bl _ => True
  | .int i => i.natAbs < 2 ^ 60
  | .str s => ∀ c ∈ s, c < 1114112
  | .tup xs => D.sms xs
  | .lst xs => D.sms xs
  | .dct _ => False | .scr _ => False | .ref _ => False | .ty _ => False | .gl _ => False | .pr _ _ => False | .obj _ _ => False | .exn _ _ => False
def D.sms : List D → Prop
  | [] => True
  | x :: xs => x.sm ∧ D.sms xs
end
mutual
def D.wS : D → Nat
  | .int _ => 60
  | .str s => s.length
  | .tup xs => D.wSs xs
  | .lst xs => D.wSs xs
  | .non => 0 | .bl _ => 0 | .dct _ => 0 | .scr _ => 0 | .ref _ => 0 | .ty _ => 0 | .gl _ => 0 | .pr _ _ => 0 | .obj _ _ => 0 | .exn _ _ => 0
def D.wSs : List D → Nat
  | [] => 0
  | x :: xs => x.wS + 1 + D.wSs xs
end
mutual
theorem D.sm_all : ∀ d : D, d.sm → d.ic ∧ d.py.intsShort 62 = true ∧ d.py.weight ≤ d.wS
  | .non, _ => ⟨trivial, rfl, Nat.le_refl _⟩
  | .bl _, _ => ⟨trivial, rfl, Nat.le_refl _⟩
  | .int i, h => by
    have hl := log_lt (k := 60) (by decide) h
    refine ⟨Nat.lt_trans h (by decide), ?_, ?_⟩
    · show decide _ = true
      simp only [decide_eq_true_eq]
      have := int_text_length_le (a := i) (k := 60) (by decide) hl
      have e : (PyData.shown (.int i)).length = (toString i).length := by
        show (Str.ofString (toString i)).length = _
        rw [PySem.ofString_length]
      rw [e]
      omega
    · show (if i == 0 then 0 else _) ≤ 60
      split <;> omega
  | .str s, h => by
    refine ⟨h, rfl, ?_⟩
    show s.toArray.size ≤ s.length
    simp
  | .tup xs, h => D.sms_all xs h
  | .lst xs, h => D.sms_all xs h
  | .dct _, h => h.elim
  | .scr _, h => h.elim
  | .ref _, h => h.elim
  | .ty _, h => h.elim
  | .gl _, h => h.elim
  | .pr _ _, h => h.elim
  | .obj _ _, h => h.elim
  | .exn _ _, h => h.elim
theorem D.sms_all : ∀ ds : List D, D.sms ds → D.ics ds ∧ PyData.intsShortAll 62 (D.pys ds) = true ∧ PyData.weightAll (D.pys ds) ≤ D.wSs ds
  | [], _ => ⟨trivial, rfl, Nat.le_refl _⟩
  | x :: xs, h => by
    obtain ⟨a, c, e⟩ := D.sm_all x h.1
    obtain ⟨a', c', e'⟩ := D.sms_all xs h.2
    refine ⟨⟨a, a'⟩, ?_, ?_⟩
    · show (x.py.intsShort 62 && PyData.intsShortAll 62 (D.pys xs)) = true
      rw [c, c']; rfl
    · show x.py.weight + 1 + PyData.weightAll (D.pys xs) ≤ x.wS + 1 + D.wSs xs
      omega
end
theorem repOkS {d : D} (h : d.sm) (hw : d.wS ≤ 250000) (hd : d.dp ≤ 50) : repOk d := by
  obtain ⟨i, c2, e2⟩ := D.sm_all d h
  obtain ⟨a, b, c, e, f⟩ := D.ic_all d i
  refine ⟨a, by omega, ?_⟩
  have h2 := PyData.shown_le 62 (by decide) d.py (PyData.leavesShort_of_canLay0 62 d.py b c2)
  show d.py.shown.cps.toList.length ≤ SZ
  have e3 : d.py.shown.cps.toList.length = d.py.shown.length := by simp [Str.length]
  rw [e3]
  simp only [SZ]
  omega
/-- data that may be written out, of weight at most w and depth at most k -/
structure Shw (w k : Nat) (d : D) : Prop where
  sm : d.sm
  wt : d.wS ≤ w
  dp : d.dp ≤ k
theorem Shw.rep {w k : Nat} {d : D} (h : Shw w k d) (hw : w ≤ 250000) (hk : k ≤ 50) : repOk d := repOkS h.sm (Nat.le_trans h.wt hw) (Nat.le_trans h.dp hk)
theorem Shw.mono {w k w' k' : Nat} {d : D} (h : Shw w k d) (hw : w ≤ w') (hk : k ≤ k') : Shw w' k' d := ⟨h.sm, Nat.le_trans h.wt hw, Nat.le_trans h.dp hk⟩
end DL

namespace DL
open PySem PySem.Spec PyProof.Rows L2
structure Shx (t k : Nat) (d : D) : Prop where
  pl : d.plain = true
  sh : d.pyO.showable = true
  dp : d.pyO.depth ≤ k
  ln : d.pyO.shown.length ≤ t
def shxB (t k : Nat) (d : D) : Bool := d.plain && d.pyO.showable && decide (d.pyO.depth ≤ k) && decide (d.pyO.shown.length ≤ t)
theorem shx_dec {t k : Nat} {d : D} (h : shxB t k d = true) : Shx t k d := by
  unfold shxB at h
  simp only [Bool.and_eq_true, decide_eq_true_eq] at h
  exact ⟨h.1.1.1, h.1.1.2, h.1.2, h.2⟩
theorem Shx.mono {t k t' k' : Nat} {d : D} (h : Shx t k d) (ht : t ≤ t') (hk : k ≤ k') : Shx t' k' d := ⟨h.pl, h.sh, Nat.le_trans h.dp hk, Nat.le_trans h.ln ht⟩
theorem Shx.rep {t k : Nat} {d : D} (h : Shx t k d) (ht : t ≤ 16777216) (hk : k ≤ 50) : repOkO d := by
  obtain ⟨a, b, c, e⟩ := h
  unfold repOkO repOkB D.repO
  have e3 : d.pyO.shown.cps.toList.length = d.pyO.shown.length := by simp [Str.length]
  simp only [Bool.and_eq_true, decide_eq_true_eq]
  rw [e3]
  exact ⟨⟨⟨a, b⟩, by omega⟩, by show _ ≤ 16777216; omega⟩
theorem Shw.shx {w k : Nat} {d : D} (h : Shw w k d) : Shx (64 * w + 62) k d := by
  obtain ⟨i, c2, e2⟩ := D.sm_all d h.sm
  obtain ⟨a, b, c, e, f⟩ := D.ic_all d i
  obtain ⟨a1, b1, _⟩ := D.shows_flat d a
  obtain ⟨c1, e1⟩ := D.flat_plain d a1
  have h2 := PyData.shown_le 62 (by decide) d.py (PyData.leavesShort_of_canLay0 62 d.py b c2)
  have := h.wt
  have := h.dp
  refine ⟨c1, by rw [e1]; exact b1, by rw [e1]; omega, ?_⟩
  rw [e1]
  have h4 : (62 + 2) * d.py.weight ≤ 64 * w := Nat.mul_le_mul_left _ (by omega)
  omega
theorem shx_bl (b : Bool) : Shx 5 0 (.bl b) := shx_dec (by cases b <;> decide +kernel)
theorem shx_non : Shx 4 0 .non := shx_dec (by decide +kernel)
theorem shx_str {s : List Nat} {n : Nat} (h : ∀ c ∈ s, c < 1114112) (hl : s.length ≤ n) : Shx (10 * n + 2) 0 (.str s) := by
  refine ⟨rfl, rfl, Nat.le_refl _, ?_⟩
  have := StrLaws.reprText_len (S s) (fun c hc => Nat.lt_trans (h c (by simpa using hc)) (by decide))
  have e : (S s).length = s.length := by simp [Str.length]
  show (reprText (S s)).length ≤ _
  omega
end DL

namespace DL
open PySem PySem.Spec PyProof.Rows L2
section
variable {prog : Program} {w : World} {A : Around} {E : Value → Shared → Prop} {s : Shared}
end
section
variable {X : Cx} {e : Expr} {d : TED} {p pos : Pos}
@[simp] def dRevT (d : TED) : TED := fun ρ μ Q => d ρ μ fun x μ1 => match x with
  | .tup xs => Q (.tup xs.reverse) μ1
  | _ => False
def rdListS : RDn
  | [.str s], μ, Q => s.length ≤ SZ ∧ Q (.lst (strD s)) μ
  | _, _, _ => False
@[simp] theorem rdListS_1 {s : List Nat} {μ : Sto} {Q : DK} : rdListS [.str s] μ Q = (s.length ≤ SZ ∧ Q (.lst (strD s)) μ) := rfl
def lrOk (i j : Int) : Prop := 0 ≤ i ∧ i ≤ 16777216 ∧ 0 ≤ j ∧ j ≤ 16777216
@[simp] def dLRngF (d : TED) : TFD := fun ρ μ Q => d ρ μ fun x μ1 => match x with
  | .int j => lrOk 0 j ∧ Q (rngD 0 j.toNat) μ1
  | _ => False
@[simp] def dTRng (d : TED) : TED := fun ρ μ Q => d ρ μ fun x μ1 => match x with
  | .int j => lrOk 0 j ∧ Q (.tup (rngD 0 j.toNat)) μ1
  | _ => False
end
end DL

namespace DL
open PySem PySem.Spec PyProof.Rows L2
section
variable {X : Cx} {a : Expr} {p p2 q pos : Pos} {d : TED}
@[simp] def dSortSetF (d : TED) : TFD := fun ρ μ Q => d ρ μ fun x μ1 => match x with
  | .tup xs => ∃ ns : List Int, xs = ns.map D.int ∧ ns.length < 60 ∧ ∀ out : List Int, out.Pairwise (· < ·) → (∀ k, k ∈ out ↔ k ∈ ns) → Q (out.map D.int) μ1
  | _ => False
@[simp] def dLenSet (d : TED) : TED := fun ρ μ Q => d ρ μ fun x μ1 => match x with
  | .tup xs => ∃ ns : List Int, xs = ns.map D.int ∧ ns.length < 60 ∧ ∀ out : List Int, out.Nodup → (∀ k, k ∈ out ↔ k ∈ ns) → Q (.int out.length) μ1
  | _ => False
end
section
variable {X : Cx}
def rNilC (K : PySem.W.Frag) (f : Bool → Bool) : R2 := fun x y H Q => ∃ a b xs, x = .ref a ∧ y = .ref b ∧ SqL K H a xs ∧ SqL K H b [] ∧ Q (.bl (f xs.isEmpty)) H
theorem op_neNil (hu : X.A.units + 64 < cLine) : OpR X (compareOp .NotEq) (rNilC X.K (!·)) := by
  intro pins s σ H x y v u Q I rx ry h
  obtain ⟨a, b, xs, rfl, rfl, ha, hb, q⟩ := h
  cases rx
  cases ry
  obtain ⟨its, r1, p1, _⟩ := I.list ha
  obtain ⟨its2, r2, p2, _⟩ := I.list hb
  cases r2
  cases r1 with
  | nil =>
    have := SeqAt.RcNeAt.lists (A := X.A) (e := fun _ => true) p1.isList p2.isList rfl (by omega) (fun j h1 _ => absurd h1 (by simp))
    exact this X.prog X.w X.xe _ ⟨.bl false, H, I, rfl, q⟩
  | cons h t =>
    have := SeqAt.RcNeAt.lists_lengths (A := X.A) p1.isList p2.isList (by simp) (by omega)
    exact this X.prog X.w X.xe _ ⟨.bl true, H, I, rfl, q⟩
def rdNilC (f : Bool → Bool) : RD2
  | .lst xs, .lst ys, μ, Q => ys = [] ∧ Q (.bl (f xs.isEmpty)) μ
  | _, _, _, _ => False
abbrev rdNeNil : RD2 := rdNilC (!·)
@[simp] theorem rdNilC_1 {f : Bool → Bool} {xs : List D} {μ : Sto} {Q : DK} : rdNilC f (.lst xs) (.lst []) μ Q = Q (.bl (f xs.isEmpty)) μ := by
  show (([] : List D) = [] ∧ _) = _
  simp
theorem ops_nilC {K : PySem.W.Frag} {mg : Str → Option Value} (f : Bool → Bool) : OpS K mg (rNilC K f) (rdNilC f) := by
  intro F μ H x y dx dy Qd Q o wx wy h k
  cases dx <;> first | exact h.elim | skip
  cases dy <;> first | exact h.elim | skip
  obtain ⟨rfl, q⟩ := h
  obtain ⟨a, vs, rfl, ha, ra⟩ := wx.lst o
  obtain ⟨b, ws, rfl, hb, rb⟩ := wy.lst o
  cases rb
  refine ⟨a, b, vs, rfl, rfl, .inl (.inl ha), .inl (.inl hb), fin0 o k (.bl _) ?_⟩
  cases ra <;> exact q
end
end DL

namespace DL
open PySem PySem.Spec PyProof.Rows L2
def keyD : D → Option Key
  | .int i => some (.inl i)
  | .str s => some (.inr (S s))
  | _ => none
@[simp] theorem keyD_int (i : Int) : keyD (.int i) = some (.inl i) := rfl
def valD (kvs : List (Key × D)) (k : Key) : Option D := (kvs.find? fun kv => decide (kv.1 = k)).map (·.2)
def putD (kvs : List (Key × D)) (k : Key) (d : D) : List (Key × D) := if kvs.any fun kv => decide (kv.1 = k) then kvs.map fun kv => if kv.1 = k then (kv.1, d) else kv else kvs ++ [(k, d)]
section
variable {K : PySem.W.Frag} {mg : Str → Option Value} {F H : Hp} {μ : Sto}
theorem Wk.key (o : Ok K mg F μ H) {v : V} {d : D} {k : Key} (h : Wk K mg F μ H v d) (e : keyD d = some k) : v = kV k := by
  cases d <;> first | cases e; done | skip
  · cases e; exact h.int
  · cases e; exact h.str
theorem Dks.val : ∀ {vs : List (Key × V)} {ds : List (Key × D)}, Dks K mg F vs ds → ∀ k, (∀ d, valD ds k = some d → ∃ v, valV vs k = some v ∧ Dt K mg F v d) ∧ (valV vs k).isSome = (valD ds k).isSome
  | _, _, .nil, k => ⟨fun d h => (by cases h), rfl⟩
  | _, _, .cons (k := j) (v := v) (d := d) h r, k => by
    have ih := Dks.val r k
    by_cases e : j = k
    · subst e
      have e1 : ∀ ds, valD ((j, d) :: ds) j = some d := fun ds => by simp [valD]
      have e2 : ∀ vs, valV ((j, v) :: vs) j = some v := fun vs => by simp [valV]
      rw [e1, e2]
      exact ⟨fun d' h' => by cases h'; exact ⟨v, rfl, h⟩, rfl⟩
    · have e1 : ∀ ds, valD ((j, d) :: ds) k = valD ds k := fun ds => by simp [valD, e]
      have e2 : ∀ vs, valV ((j, v) :: vs) k = valV vs k := fun vs => by simp [valV, e]
      rw [e1, e2]
      exact ih
theorem Dks.len : ∀ {vs : List (Key × V)} {ds : List (Key × D)}, Dks K mg F vs ds → vs.length = ds.length
  | _, _, .nil => rfl
  | _, _, .cons _ r => congrArg (· + 1) (Dks.len r)
theorem Dks.any : ∀ {vs : List (Key × V)} {ds : List (Key × D)}, Dks K mg F vs ds → ∀ k, (vs.any fun kv => decide (kv.1 = k)) = ds.any fun kv => decide (kv.1 = k)
  | _, _, .nil, _ => rfl
  | _, _, .cons _ r, k => by rw [List.any_cons, List.any_cons, Dks.any r k]
theorem Dks.rep {v : V} {d : D} (h : Dt K mg F v d) (k : Key) : ∀ {vs : List (Key × V)} {ds : List (Key × D)}, Dks K mg F vs ds → Dks K mg F (vs.map fun kv => if kv.1 = k then (kv.1, v) else kv) (ds.map fun kv => if kv.1 = k then (kv.1, d) else kv)
  | _, _, .nil => .nil
  | _, _, .cons (k := j) g r => by
    rw [List.map_cons, List.map_cons]
    by_cases e : j = k
    · simp only [if_pos e]
      exact .cons h (Dks.rep h k r)
    · simp only [if_neg e]
      exact .cons g (Dks.rep h k r)
end
section
variable {X : Cx} {B : Bs} {e o i : Expr} {d do' di : TED} {p pos : Pos}
/-- {} as a dict that changes -/
@[simp] def dNewD : TED := fun _ μ Q => ∀ p, μ p = none → Q (.ref p) (sset μ p (.dct []))
/-- d[y] -/
@[simp] def dGetD (o i : TED) : TED := fun ρ μ Q => o ρ μ fun x μ1 => i ρ μ1 fun y μ2 => ∃ a kvs k d, x = .ref a ∧ μ2 a = some (.dct kvs) ∧ keyD y = some k ∧ valD kvs k = some d ∧ Q d μ2
/-- y in d, y not in d -/
@[simp] def dInD (neg : Bool) (i o : TED) : TED := fun ρ μ Q => i ρ μ fun y μ1 => o ρ μ1 fun x μ2 => ∃ a kvs k, x = .ref a ∧ μ2 a = some (.dct kvs) ∧ keyD y = some k ∧ Q (.bl (if neg then !(valD kvs k).isSome else (valD kvs k).isSome)) μ2
/-- d[y] = v -/
@[simp] def dPutD (d o i : TED) : TSD := fun E ρ μ => d ρ μ fun v μ1 => o ρ μ1 fun x μ2 => i ρ μ2 fun y μ3 => ∃ a kvs k, x = .ref a ∧ μ3 a = some (.dct kvs) ∧ keyD y = some k ∧ kvs.length < SZ ∧ E.nx ρ (sset μ3 a (.dct (putD kvs k v)))
end
end DL

namespace DL
open PySem PySem.Spec PyProof.Rows L2
abbrev txtD (kvs : List (List Nat × List Nat)) : List (Key × D) := kvs.map fun p => (.inr (S p.1), D.str p.2)
section
variable {X : Cx} {e o i : Expr} {d do' di : TED} {p pos : Pos}
@[simp] def dDctS (kvs : List (List Nat × List Nat)) : TED := dC (.dct (txtD kvs))
/-- d[y] of a dict that does not change -/
@[simp] def dGetF (o i : TED) : TED := fun ρ μ Q => o ρ μ fun x μ1 => i ρ μ1 fun y μ2 => ∃ kvs k d, x = .dct kvs ∧ keyD y = some k ∧ valD kvs k = some d ∧ Q d μ2
end
end DL

namespace DL
open PySem PySem.Spec PyProof.Rows L2
section
variable {X : Cx}
def rdNeNilT : RD2
  | .tup xs, .tup ys, μ, Q => ys = [] ∧ Q (.bl (!xs.isEmpty)) μ
  | _, _, _, _ => False
@[simp] theorem rdNeNilT_1 {xs : List D} {μ : Sto} {Q : DK} : rdNeNilT (.tup xs) (.tup []) μ Q = Q (.bl (!xs.isEmpty)) μ := by
  show (([] : List D) = [] ∧ _) = _
  simp
end
section
variable {X : Cx}
def rdAddN : RD2
  | .bl k, .int i, μ, Q => Q (.int (b2i k + i)) μ
  | x, y, μ, Q => rdAdd x y μ Q
@[simp] theorem rdAddN_1 {k : Bool} {i : Int} {μ : Sto} {Q : DK} : rdAddN (.bl k) (.int i) μ Q = Q (.int (b2i k + i)) μ := rfl
@[simp] theorem rdAddN_2 {i j : Int} {μ : Sto} {Q : DK} : rdAddN (.int i) (.int j) μ Q = Q (.int (i + j)) μ := rfl
@[simp] theorem rdAddN_3 {s t : List D} {μ : Sto} {Q : DK} : rdAddN (.tup s) (.tup t) μ Q = (s.length + t.length ≤ SZ ∧ Q (.tup (s ++ t)) μ) := rfl
@[simp] theorem rdAddN_4 {s t : List D} {μ : Sto} {Q : DK} : rdAddN (.lst s) (.lst t) μ Q = (s.length + t.length ≤ SZ ∧ Q (.lst (s ++ t)) μ) := rfl
def rdSubN : RD2
  | .bl k, .int i, μ, Q => Q (.int (b2i k - i)) μ
  | .int i, .bl k, μ, Q => Q (.int (i - b2i k)) μ
  | .int i, .int j, μ, Q => Q (.int (i - j)) μ
  | _, _, _, _ => False
@[simp] theorem rdSubN_1 {k : Bool} {i : Int} {μ : Sto} {Q : DK} : rdSubN (.bl k) (.int i) μ Q = Q (.int (b2i k - i)) μ := rfl
@[simp] theorem rdSubN_2 {k : Bool} {i : Int} {μ : Sto} {Q : DK} : rdSubN (.int i) (.bl k) μ Q = Q (.int (i - b2i k)) μ := rfl
@[simp] theorem rdSubN_3 {i j : Int} {μ : Sto} {Q : DK} : rdSubN (.int i) (.int j) μ Q = Q (.int (i - j)) μ := rfl
end
section
variable {K : PySem.W.Frag} {mg : Str → Option Value}
end
/-- str() of an int or a bool -/
def truD (b : Bool) : List Nat := if b then [84, 114, 117, 101] else [70, 97, 108, 115, 101]
def rdStrZ : RDn
  | [.int i], μ, Q => i.natAbs.log2 < 1920 ∧ Q (.str (toString i : Str).cps.toList) μ
  | [.bl b], μ, Q => Q (.str (truD b)) μ
  | _, _, _ => False
@[simp] theorem rdStrZ_1 {i : Int} {μ : Sto} {Q : DK} : rdStrZ [.int i] μ Q = (i.natAbs.log2 < 1920 ∧ Q (.str (toString i : Str).cps.toList) μ) := rfl
@[simp] theorem rdStrZ_2 {b : Bool} {μ : Sto} {Q : DK} : rdStrZ [.bl b] μ Q = Q (.str (truD b)) μ := rfl
/-- the promise that asks what never is -/
def noSp : DSp := fun _ _ _ _ => False
theorem Cal.nothing {P : Program} {w : World} {K : PySem.W.Frag} {mg : Str → Option Value} {base : Heap} {CX : CXT} {k : Nat} {x : Str} {f : Addr} (hm : mg x = some (.ref f)) (hk : PySem.W.keepIn K (.ref f) = true) : Cal P w K mg base CX k x noSp :=
  ⟨f, fun _ _ _ _ _ _ _ _ _ _ _ _ ⟨_, _, _, _, _, _, _, h, _⟩ => h.elim, hm, hk⟩
end DL

namespace DL
open PySem PySem.Spec PyProof.Rows L2
/-- the jar at j, its cells at c, at most b draws so far -/
def Jar (j c : Addr) (b : Nat) (μ : Sto) : Prop := ∃ (n : Nat) (cells : List Nat), n ≤ b ∧ j ≠ c ∧ μ j = some (.lst [.ref c, .int n]) ∧ μ c = some (.lst (cells.map fun x : Nat => D.int x)) ∧ cells.length ≤ 63
/-- nothing else has changed -/
def Same (j c : Addr) (μ μ' : Sto) : Prop := ∀ a, a ≠ j → a ≠ c → μ' a = μ a
theorem Jar.le {j c : Addr} {b b' : Nat} {μ : Sto} (h : Jar j c b μ) (le : b ≤ b') : Jar j c b' μ := by
  obtain ⟨n, cells, hn, r⟩ := h
  exact ⟨n, cells, Nat.le_trans hn le, r⟩
theorem Same.refl {j c : Addr} {μ : Sto} : Same j c μ μ := fun _ _ _ => rfl
theorem Same.trans {j c : Addr} {μ μ1 μ2 : Sto} (h : Same j c μ μ1) (g : Same j c μ1 μ2) : Same j c μ μ2 := fun a x y => (g a x y).trans (h a x y)
/-- since μ0: a jar of at most b draws, nothing else changed -/
def St (j c : Addr) (μ0 : Sto) (b : Nat) (μ : Sto) : Prop := Jar j c b μ ∧ Same j c μ0 μ
theorem St.le {j c : Addr} {b b' : Nat} {μ0 μ : Sto} (h : St j c μ0 b μ) (le : b ≤ b') : St j c μ0 b' μ := ⟨h.1.le le, h.2⟩
/-- a word of small letters -/
def Low (s : List Nat) : Prop := ∀ c ∈ s, 97 ≤ c ∧ c ≤ 122
theorem Low.append {s t : List Nat} (h : Low s) (g : Low t) : Low (s ++ t) := fun c hc => (List.mem_append.mp hc).elim (h c) (g c)
theorem Low.take {s : List Nat} (h : Low s) (n : Nat) : Low (s.take n) := fun c hc => h c (List.mem_of_mem_take hc)
theorem Low.reverse {s : List Nat} (h : Low s) : Low s.reverse := fun c hc => h c (List.mem_reverse.mp hc)
theorem Low.repl {s : List Nat} (h : Low s) (n : Nat) : Low (repl n s) := fun c hc => by
  unfold DL.repl at hc
  obtain ⟨l, hl, hc⟩ := List.mem_flatten.mp hc
  rw [(List.mem_replicate.mp hl).2] at hc
  exact h c hc
theorem Low.lt {s : List Nat} (h : Low s) : ∀ c ∈ s, c < 1114112 := fun c hc => by have := h c hc; omega
end DL

namespace DL
open PySem PySem.Spec PyProof.Rows L2
end DL

namespace DL
open PySem PySem.Spec PyProof.Rows L2
/-- the first pick, from a place on: places -/
def fp (one : List Nat) : List Nat → Nat → List Nat
  | [], _ => []
  | c :: r, b => match (one.drop b).findIdx? (· == c) with
    | some k => (b + k) :: fp one r (b + k + 1)
    | none => []

end DL

namespace DL
open PySem PySem.Spec PyProof.Rows L2
end DL

namespace DL
open PySem PySem.Spec PyProof.Rows L2
/-- the letters of one at the places l, one behind the other -/
def inc (l : List Nat) : Bool := (l.zip (l.drop 1)).all fun p => decide (p.1 < p.2)
end DL

namespace DL
open PySem PySem.Spec PyProof.Rows L2
@[simp] theorem inc_nil : inc [] = true := rfl
@[simp] theorem inc_one (x : Nat) : inc [x] = true := rfl
end DL

namespace DL
open PySem PySem.Spec PyProof.Rows L2
/-- the deck at j, its great cells at c, at most b draws without them so far -/
def Deck (j c : Addr) (b : Nat) (μ : Sto) : Prop := ∃ (n : Nat) (cells great : List Nat), n ≤ b ∧ j ≠ c ∧ cells ≠ [] ∧ cells.length ≤ 64 ∧ μ j = some (.lst [.ref c, .lst (nats cells), .int n]) ∧ μ c = some (.lst (nats great)) ∧ great.length ≤ 63
def StD (j c : Addr) (μ0 : Sto) (b : Nat) (μ : Sto) : Prop := Deck j c b μ ∧ Same j c μ0 μ
theorem Deck.le {j c : Addr} {b b' : Nat} {μ : Sto} (h : Deck j c b μ) (le : b ≤ b') : Deck j c b' μ := by
  obtain ⟨n, m, cells, hn, r⟩ := h
  exact ⟨n, m, cells, Nat.le_trans hn le, r⟩
theorem StD.le {j c : Addr} {b b' : Nat} {μ0 μ : Sto} (h : StD j c μ0 b μ) (le : b ≤ b') : StD j c μ0 b' μ := ⟨h.1.le le, h.2⟩
def drawSpD (k : Nat) (pre : List D → (D → Prop) → Prop) : DSp := fun ds μ Q _ => ∃ j c b r, ds = .ref j :: r ∧ Deck j c b μ ∧ b + k ≤ 1000000 ∧ ∃ R, pre r R ∧ ∀ d μ', R d → Deck j c (b + k) μ' → Same j c μ μ' → Q d μ'
theorem drawD_ok {k : Nat} {pre : List D → (D → Prop) → Prop} {j c : Addr} {b : Nat} {μ0 μ : Sto} {r : List D} {R : D → Prop} {Q : DK} {E : DXK} (h : StD j c μ0 b μ) (hb : b + k ≤ 1000000) (hp : pre r R)
    (q : ∀ d μ', R d → StD j c μ0 (b + k) μ' → Q d μ') : drawSpD k pre (.ref j :: r) μ Q E := ⟨j, c, b, r, rfl, h.1, hb, R, hp, fun d μ' h1 h2 h3 => q d μ' h1 ⟨h2, h.2.trans h3⟩⟩
def sp_law_deck : DSp := fun ds μ Q _ => ∃ ns : List Int, ds = [.scr ns] ∧ ns.length ≤ 63 ∧ ∀ j c μ', Deck j c 0 μ' → μ j = none → μ c = none → Same j c μ μ' → Q (.ref j) μ'
def b_law_deck_2 : TSD :=
  (dRet (dM (dLstF (dCons (dM (dLc [2] (dEach (dVar 1)) (dName 2) (dB (dOp rdGe (dLook 2) (dOp rdPow (dC (.int 10)) (dC (.int 18))))) (dVar 2))) (dCons (dOp rdAdd (dLook 1) (dLst (dCons (dOp rdAdd (dFn rdLen (dCons (dLook 1) dNil)) (dC (.int 7))) dNil))) (dCons (dC (.int 0)) dNil))))))
/-- _law_deck(_law_script); slots 0:_law_script 1:_law_cells 2:_law_cell -/
def b_law_deck : TSD :=
  (dSeq (dSetR 1 (dVal (dF (dLc [2] (dEach (dVar 0)) (dName 2) dYes (dFn rdAbs (dCons (dLook 2) dNil))))))
  b_law_deck_2)
theorem len_law_deck : ∀ ds μ Q E, sp_law_deck ds μ Q E → ds.length = 1 := by
  rintro ds μ Q E ⟨ns, rfl, _⟩; rfl
theorem okEq_nats (l : List Nat) : okEq (.lst (nats l)) (.lst []) := by
  have := okEq_ints (l.map fun x : Nat => (x : Int)) []
  rw [List.map_map] at this
  exact this
theorem ok_law_deck : ∀ ds μ Q E, sp_law_deck ds μ Q E → b_law_deck { nx := fun _ μ' => Q .non μ', rt := Q } (startD 3 ds) μ := by
  rintro ds μ Q E ⟨ns, rfl, hn, q⟩
  unfold b_law_deck
  simp
  refine lcD_list ns D.int (fun i => .int (i.natAbs : Nat)) trivial (by simp; omega) ?_ ?_
  · intro i hi k hk
    have : (if i < 0 then -i else i) = (i.natAbs : Int) := by split <;> omega
    simpa [this] using hk
  unfold b_law_deck_2
  simp
  rw [show (List.map (fun i : Int => D.int (i.natAbs : Int)) ns) = nats (ns.map (·.natAbs)) by simp]
  refine lcD_listF (ns.map (·.natAbs)) (fun n : Nat => decide ((1000000000000000000 : Int) ≤ (n : Int))) (inv := still) _ (fun n => .int (n : Nat)) trivial (by simp; omega) ?_ ?_
  · intro a ha k n h1 h2
    simp [powOk]
    split
    · rename_i hc; exact h1 (decide_eq_true hc)
    · rename_i hc; exact h2 (decide_eq_false hc)
  intro p hp
  refine ⟨by omega, fun p1 hp1 => ?_⟩
  have hne : p1 ≠ p := fun e => by subst e; rw [sset_same] at hp1; cases hp1
  refine q p1 p _ ⟨0, ns.map (·.natAbs) ++ [ns.length + 7], (ns.map (·.natAbs)).filter fun n : Nat => decide ((1000000000000000000 : Int) ≤ (n : Int)), Nat.le_refl _, hne, by simp, by simp; omega, ?_, ?_, ?_⟩ (by rw [sset_ne hne] at hp1; exact hp1) hp fun a h1 h2 => by rw [sset_ne h1, sset_ne h2]
  · rw [sset_same]; simp
  · rw [sset_ne hne.symm, sset_same]
  · exact Nat.le_trans (List.length_filter_le _ _) (by simp; exact hn)
def sp_law_draw : DSp := drawSpD 1 fun r R => ∃ m : Nat, r = [.int m] ∧ 0 < m ∧ m < 100000000000000 ∧ R = fun d => ∃ x : Nat, x < m ∧ d = .int x
theorem draw1_ok {j c : Addr} {b m : Nat} {μ0 μ : Sto} {Q : DK} {E : DXK} (h : StD j c μ0 b μ) (hb : b + 1 ≤ 1000000) (m0 : 0 < m) (m1 : m < 100000000000000) (q : ∀ (x : Nat) μ', x < m → StD j c μ0 (b + 1) μ' → Q (.int x) μ') :
    sp_law_draw [.ref j, .int m] μ Q E := drawD_ok h hb ⟨m, rfl, m0, m1, rfl⟩ fun d μ' ⟨x, hx, e⟩ h2 => e ▸ q x μ' hx h2
def b_law_draw_1l_2t_2 : TSD :=
  (dRet (dOp rdMod (dLook 2) (dLook 1)))
def b_law_draw_1l_2t : TSD :=
  (dSeq (dPutM (dOp rdDiv (dLook 2) (dLook 1)) (dOp rdIx (dLook 0) (dC (.int 0))) (dC (.int 0)))
  b_law_draw_1l_2t_2)
def b_law_draw_1l_3 : TSD :=
  (dDrop (dMt "list" rdPopAt (dOp rdIx (dLook 0) (dC (.int 0))) (dCons (dC (.int 0)) dNil)))
def b_law_draw_1l_2 : TSD :=
  (dSeq (dIfS (dB (dOp rdGt (dLook 2) (dC (.int 0))))
  b_law_draw_1l_2t
  dNext)
  b_law_draw_1l_3)
def b_law_draw_1l : TSD :=
  (dSeq (dSetR 2 (dVal (dOp rdIx (dOp rdIx (dLook 0) (dC (.int 0))) (dC (.int 0)))))
  b_law_draw_1l_2)
def b_law_draw_6 : TSD :=
  (dRet (dOp rdMod (dOp rdDiv (dOp rdMod (dOp rdMul (dLook 4) (dLook 4)) (dC (.int 2147483563))) (dC (.int 16))) (dLook 1)))
def b_law_draw_5 : TSD :=
  (dSeq (dSetR 4 (dVal (dOp rdMod (dOp rdAdd (dLook 4) (dOp rdMul (dOp rdMul (dC (.int 48271)) (dOp rdIx (dLook 0) (dC (.int 2)))) (dOp rdIx (dLook 0) (dC (.int 2))))) (dC (.int 2147483587)))))
  b_law_draw_6)
def b_law_draw_4 : TSD :=
  (dSeq (dSetR 4 (dVal (dOp rdAdd (dOp rdMul (dLook 3) (dOp rdAdd (dC (.int 69621)) (dOp rdMul (dC (.int 2)) (dOp rdIx (dLook 0) (dC (.int 2)))))) (dC (.int 30011)))))
  b_law_draw_5)
def b_law_draw_3 : TSD :=
  (dSeq (dSetR 3 (dVal (dOp rdMod (dOp rdIx (dOp rdIx (dLook 0) (dC (.int 1))) (dOp rdMod (dOp rdIx (dLook 0) (dC (.int 2))) (dFn rdLen (dCons (dOp rdIx (dLook 0) (dC (.int 1))) dNil)))) (dC (.int 2147483629)))))
  b_law_draw_4)
def b_law_draw_2 : TSD :=
  (dSeq (dPutM (dOp rdAdd (dOp rdIx (dLook 0) (dC (.int 2))) (dC (.int 1))) (dVar 0) (dC (.int 2)))
  b_law_draw_3)
/-- _law_draw(_law_deck_here, _law_below); slots 0:_law_deck_here 1:_law_below 2:_law_rest 3:_law_cell 4:_law_mixed -/
def b_law_draw : TSD :=
  (dSeq (dWhile (dB (dOp rdNeR (dOp rdIx (dLook 0) (dC (.int 0))) (dLst dNil)))
  b_law_draw_1l)
  b_law_draw_2)
theorem len_law_draw : ∀ ds μ Q E, sp_law_draw ds μ Q E → ds.length = 2 := by
  rintro ds μ Q E ⟨j, c, b, r, rfl, _, _, R, ⟨m, rfl, _⟩, _⟩; rfl
theorem ok_law_draw : ∀ ds μ Q E, sp_law_draw ds μ Q E → b_law_draw { nx := fun _ μ' => Q .non μ', rt := Q } (startD 5 ds) μ := by
  rintro ds μ Q E ⟨j, c, b, r, rfl, ⟨n, cells, great, hn, hjc, hce, hcl, hj, hc, hl⟩, hb, R, ⟨m, rfl, m0, m1, rfl⟩, q⟩
  unfold b_law_draw
  rw [dSeq]
  refine dWhile_inv (fun k ρ μ' => ∃ gs x2, k = gs.length ∧ ρ = [some (.val (.ref j)), some (.val (.int m)), x2, none, none] ∧ μ' j = some (.lst [.ref c, .lst (nats cells), .int n]) ∧ μ' c = some (.lst (nats gs)) ∧ gs.length ≤ 63 ∧ Same j c μ μ') ?_ great.length ⟨great, none, rfl, rfl, hj, hc, hl, .refl⟩
  rintro k ρ μ1 nn ⟨gs, x2, rfl, rfl, hj1, hc1, hl1, s1⟩ hnn
  simp [hj1, hc1]
  refine ⟨okEq_nats gs, ?_⟩
  rw [eqvs_nil_r]
  cases gs with
  | nil =>
    rw [if_pos (by rfl)]
    unfold b_law_draw_2
    simp [hj1]
    have hj2 : sset μ1 j (MO.lst [D.ref c, D.lst (nats cells), D.int (↑n + 1)]) j = some (.lst [D.ref c, D.lst (nats cells), D.int ((n + 1 : Nat) : Int)]) := sset_same
    have hc2 : sset μ1 j (MO.lst [D.ref c, D.lst (nats cells), D.int (↑n + 1)]) c = some (.lst []) := by rw [sset_ne hjc.symm]; exact hc1
    have s2 : Same j c μ (sset μ1 j (MO.lst [D.ref c, D.lst (nats cells), D.int (↑n + 1)])) := fun a h1 h2 => (sset_ne h1).trans (s1 a h1 h2)
    generalize sset μ1 j (MO.lst [D.ref c, D.lst (nats cells), D.int (↑n + 1)]) = μ2 at hj2 hc2 s2
    have fin : ∀ v : Int, Q (D.int (v % (m : Int))) μ2 := fun v => by
      have h1 := Int.emod_nonneg v (b := (m : Int)) (by omega)
      have h2 := Int.emod_lt_of_pos v (b := (m : Int)) (by omega)
      exact q _ _ ⟨(v % (m : Int)).toNat, by omega, by congr 1; omega⟩ ⟨n + 1, cells, [], by omega, hjc, hce, hcl, hj2, hc2, by simp⟩ s2
    have hcp : 0 < cells.length := List.length_pos_iff.mpr hce
    obtain ⟨N, hN⟩ : ∃ N : Int, ((n + 1 : Nat) : Int) = N := ⟨_, rfl⟩
    rw [hN] at hj2
    obtain ⟨y, hy1, hy2⟩ := atI_of (xs := nats cells) (i := N % (cells.length : Int)) (Int.emod_nonneg _ (by omega)) (by simpa using Int.emod_lt_of_pos _ (by omega))
    obtain ⟨z, hz, rfl⟩ := List.mem_map.mp hy2
    unfold b_law_draw_3
    simp [hj2]
    refine ⟨by omega, _, hy1, ?_⟩
    simp
    have b1 := Int.emod_nonneg (z : Int) (b := 2147483629) (by omega)
    have b2 := Int.emod_lt_of_pos (z : Int) (b := 2147483629) (by omega)
    generalize (z : Int) % 2147483629 = zz at b1 b2 ⊢
    unfold b_law_draw_4
    simp only [dSeq, dSetR, dVal, dOp, dLook, dC, hj2, List.getElem?_cons_succ, List.getElem?_cons_zero, rdIx_5]
    refine ⟨_, _, rfl, atI_2 _ _ _ _, ?_⟩
    rw [rdMul_1]
    refine ⟨.inl ⟨by omega, by omega⟩, ?_⟩
    rw [rdAdd_1, rdMul_1]
    refine ⟨.inl ⟨by omega, by omega⟩, ?_⟩
    rw [rdAdd_1]
    generalize zz * (69621 + 2 * N) + 30011 = yy
    unfold b_law_draw_5
    simp only [dSeq, dSetR, dVal, dOp, dLook, dC, hj2, List.getElem?_cons_succ, List.getElem?_cons_zero, rdIx_5, List.set_cons_succ, List.set_cons_zero]
    refine ⟨_, _, rfl, atI_2 _ _ _ _, ?_⟩
    rw [rdMul_1]
    refine ⟨.inl ⟨by omega, by omega⟩, _, _, hj2, atI_2 _ _ _ _, ?_⟩
    rw [rdMul_1]
    refine ⟨.inr (.inl ⟨by omega, by omega⟩), ?_⟩
    rw [rdAdd_1, rdMod_i]
    refine ⟨by omega, ?_⟩
    generalize yy + 48271 * N * N = y
    unfold b_law_draw_6
    have b3 := Int.emod_nonneg y (b := 2147483587) (by omega)
    have b4 := Int.emod_lt_of_pos y (b := 2147483587) (by omega)
    simp [mulOk, divOk, m0]
    exact ⟨by omega, fin _⟩
  | cons x gs' =>
    rw [if_neg (by simp)]
    refine ⟨fun ρ' μ' => ∃ y, ρ' = [some (DS.val (D.ref j)), some (DS.val (D.int ↑m)), y, none, none] ∧ μ' j = some (MO.lst [D.ref c, D.lst (nats cells), D.int ↑n]) ∧ μ' c = some (MO.lst (nats gs')) ∧ Same j c μ μ', ?_, ?_⟩
    · rintro ρ' μ' ⟨y, rfl, h1, h2, h3⟩
      simp at hl1
      exact ⟨_, Nat.lt_succ_self _, gs', rfl, ⟨_, rfl⟩, h1, h2, by omega, h3⟩
    unfold b_law_draw_1l
    simp [hj1, hc1]
    unfold b_law_draw_1l_2
    simp
    by_cases hx : 0 < x
    · rw [if_pos hx]
      unfold b_law_draw_1l_2t b_law_draw_1l_2t_2
      simp [hj1, hc1, divOk, m0]
      refine ⟨.inr (log_lt (k := 9000) (by decide) (Nat.lt_of_lt_of_le (Nat.lt_trans m1 (by decide : 100000000000000 < 2 ^ 50)) (Nat.pow_le_pow_right (by decide) (by decide)))), ?_⟩
      refine q _ _ ⟨x % m, Nat.mod_lt _ m0, rfl⟩ ⟨n, cells, (x / m) :: gs', by omega, hjc, hce, hcl, by rw [sset_ne hjc]; exact hj1, by rw [sset_same]; simp, by simpa using hl1⟩ fun a h1 h2 => by rw [sset_ne h2]; exact s1 a h1 h2
    · rw [if_neg hx]
      have hx0 : x = 0 := by omega
      subst hx0
      unfold b_law_draw_1l_3
      simp [hj1, hc1]
      refine ⟨⟨_, by unfold refLst; rw [hc1]⟩, 0, ?_, ⟨_, rfl⟩, by rw [sset_ne hjc]; exact hj1, by rw [sset_same]; rfl, fun a h1 h2 => by rw [sset_ne h2]; exact s1 a h1 h2⟩
      unfold seqIndex?
      simp
end DL

namespace DL
open PySem PySem.Spec PyProof.Rows L2
/-- a stroke: letter, force; or a tear -/
abbrev HI := Option (Nat × Nat)
end DL

namespace DL
open PySem PySem.Spec PyProof.Rows L2
end DL

namespace DL
open PySem PySem.Spec PyProof.Rows L2
/-- what the strokes write on sheet i, from the top sheet t on -/
def lt : List HI → Nat → Nat → List Nat
  | [], _, _ => []
  | none :: r, t, i => lt r (t + 1) i
  | some (c, f) :: r, t, i => if t ≤ i ∧ i < t + f then c :: lt r t i else lt r t i
end DL

namespace DL
open PySem PySem.Spec PyProof.Rows L2
end DL

namespace DL
open PySem PySem.Spec PyProof.Rows L2
end DL

namespace DL
open PySem PySem.Spec PyProof.Rows L2
end DL

namespace DL
open PySem PySem.Spec PyProof.Rows L2
def strokes (h : List HI) : Nat := (h.filter Option.isSome).length
end DL

namespace DL
open PySem PySem.Spec PyProof.Rows L2
end DL

namespace DL
open PySem PySem.Spec PyProof.Rows L2
/-- the whole numbers that come about -/
def intB (B : Nat) (i : Int) : Prop := i.natAbs ≤ 40 + B ∨ (i - 100000000000000000000000000000000000000000000000000000000000).natAbs ≤ B ∨ (i + 100000000000000000000000000000000000000000000000000000000000).natAbs ≤ B
theorem intB.mono {B C : Nat} {i : Int} (h : intB B i) (hc : B ≤ C) : intB C i := by unfold intB at h ⊢; omega
def okTxt (i : Int) : Bool := ((toString i : Str).cps.toList.all fun c => decide (c < 1114112)) && decide ((toString i : Str).cps.toList.length ≤ 62) && shxB 70 0 (.int i) && decide (i.natAbs.log2 < 1920)
theorem txt_small : ∀ k : Fin 101, okTxt ((k.val : Int) - 50) = true := by decide +kernel
theorem txt_big : ∀ k : Fin 21, okTxt (100000000000000000000000000000000000000000000000000000000000 + (k.val : Int) - 10) = true := by decide +kernel
theorem txt_neg : ∀ k : Fin 21, okTxt (-100000000000000000000000000000000000000000000000000000000000 + (k.val : Int) - 10) = true := by decide +kernel
theorem txt_ok {i : Int} (h : intB 10 i) : okTxt i = true := by
  rcases h with h | h | h
  · have := txt_small ⟨(i + 50).toNat, by omega⟩
    rwa [show (((i + 50).toNat : Nat) : Int) - 50 = i by omega] at this
  · have := txt_big ⟨(i - 100000000000000000000000000000000000000000000000000000000000 + 10).toNat, by omega⟩
    rwa [show 100000000000000000000000000000000000000000000000000000000000 + (((i - 100000000000000000000000000000000000000000000000000000000000 + 10).toNat : Nat) : Int) - 10 = i by omega] at this
  · have := txt_neg ⟨(i + 100000000000000000000000000000000000000000000000000000000000 + 10).toNat, by omega⟩
    rwa [show -100000000000000000000000000000000000000000000000000000000000 + (((i + 100000000000000000000000000000000000000000000000000000000000 + 10).toNat : Nat) : Int) - 10 = i by omega] at this
theorem txt_all {i : Int} (h : intB 10 i) : (∀ c ∈ (toString i : Str).cps.toList, c < 1114112) ∧ (toString i : Str).cps.toList.length ≤ 62 ∧ Shx 70 0 (.int i) ∧ i.natAbs.log2 < 1920 := by
  have := txt_ok h
  unfold okTxt at this
  simp only [Bool.and_eq_true, List.all_eq_true, decide_eq_true_eq] at this
  exact ⟨this.1.1.1, this.1.1.2, shx_dec this.1.2, this.2⟩
mutual
def D.okx (B : Nat) : D → Prop
  | .non => True
  | .bl _ => True
  | .int i => intB B i
  | .str s => ∀ c ∈ s, c < 1114112
  | .tup xs => D.okxs B xs
  | .lst xs => D.okxs B xs
  | .dct kvs => kvs = [] ∨ kvs = [(.inr (S [97]), .int 1)]
  | .scr _ => False | .ref _ => False | .ty _ => False | .gl _ => False | .pr _ _ => False | .obj _ _ => False | .exn _ _ => False
def D.okxs (B : Nat) : List D → Prop
  | [] => True
  | x :: xs => x.okx B ∧ D.okxs B xs
end
mutual
def D.wx : D → Nat
  | .str s => s.length + 1
  | .tup xs => 1 + D.wxs xs
  | .lst xs => 1 + D.wxs xs
  | .int _ => 1 | .non => 1 | .bl _ => 1 | .dct _ => 1 | .scr _ => 0 | .ref _ => 0 | .ty _ => 0 | .gl _ => 0 | .pr _ _ => 0 | .obj _ _ => 0 | .exn _ _ => 0
def D.wxs : List D → Nat
  | [] => 0
  | x :: xs => x.wx + 1 + D.wxs xs
end
mutual
def D.dx : D → Nat
  | .tup xs => D.dxs xs + 1
  | .lst xs => D.dxs xs + 1
  | .dct _ => 1
  | .str _ => 0 | .int _ => 0 | .non => 0 | .bl _ => 0 | .scr _ => 0 | .ref _ => 0 | .ty _ => 0 | .gl _ => 0 | .pr _ _ => 0 | .obj _ _ => 0 | .exn _ _ => 0
def D.dxs : List D → Nat
  | [] => 0
  | x :: xs => max x.dx (D.dxs xs)
end
theorem okxs_iff {B : Nat} : ∀ {xs : List D}, D.okxs B xs ↔ ∀ x ∈ xs, x.okx B
  | [] => ⟨fun _ _ h => (nomatch h), fun _ => trivial⟩
  | x :: xs => by
    show (x.okx B ∧ D.okxs B xs) ↔ _
    rw [okxs_iff (xs := xs)]
    simp
theorem dxs_le {k : Nat} : ∀ {xs : List D}, D.dxs xs ≤ k ↔ ∀ x ∈ xs, x.dx ≤ k
  | [] => by simp [D.dxs]
  | x :: xs => by
    show max x.dx (D.dxs xs) ≤ k ↔ _
    rw [Nat.max_le, dxs_le (xs := xs)]
    simp
mutual
theorem okx_shx : ∀ d : D, d.okx 10 → Shx (70 * d.wx) d.dx d
  | .non, _ => shx_non.mono (by show 4 ≤ 70 * 1; omega) (Nat.le_refl _)
  | .bl b, _ => (shx_bl b).mono (by show 5 ≤ 70 * 1; omega) (Nat.le_refl _)
  | .int i, h => (txt_all h).2.2.1
  | .str s, h => (shx_str h (Nat.le_refl _)).mono (by show 10 * s.length + 2 ≤ 70 * (s.length + 1); omega) (Nat.le_refl _)
  | .tup xs, h => by
    obtain ⟨a, b, c, e, f⟩ := okxs_shx xs h
    refine ⟨a, b, Nat.succ_le_succ c, ?_⟩
    have h1 := tupleText_len_le (PyData.shownAll (D.pysO xs))
    show (tupleText (PyData.shownAll (D.pysO xs))).length ≤ 70 * (1 + D.wxs xs)
    omega
  | .lst xs, h => by
    obtain ⟨a, b, c, e, f⟩ := okxs_shx xs h
    refine ⟨a, b, Nat.succ_le_succ c, ?_⟩
    have h1 := listText_len_le (PyData.shownAll (D.pysO xs))
    show (listText (PyData.shownAll (D.pysO xs))).length ≤ 70 * (1 + D.wxs xs)
    omega
  | .dct kvs, h => by
    rcases h with rfl | rfl
    · exact shx_dec (by decide +kernel)
    · exact shx_dec (by decide +kernel)
  | .scr _, h => h.elim
  | .ref _, h => h.elim
  | .ty _, h => h.elim
  | .gl _, h => h.elim
  | .pr _ _, h => h.elim
  | .obj _ _, h => h.elim
  | .exn _ _, h => h.elim
theorem okxs_shx : ∀ xs : List D, D.okxs 10 xs → D.plains xs = true ∧ PyData.showableAll (D.pysO xs) = true ∧ PyData.depthAll (D.pysO xs) ≤ D.dxs xs ∧
    ((PyData.shownAll (D.pysO xs)).map (·.length)).sum + 2 * (PyData.shownAll (D.pysO xs)).length ≤ 70 * D.wxs xs ∧ (PyData.shownAll (D.pysO xs)).length = xs.length
  | [], _ => ⟨rfl, rfl, Nat.zero_le _, Nat.zero_le _, rfl⟩
  | x :: xs, h => by
    obtain ⟨a, b, c, e⟩ := okx_shx x h.1
    obtain ⟨a', b', c', e', f'⟩ := okxs_shx xs h.2
    refine ⟨?_, ?_, ?_, ?_, congrArg (· + 1) f'⟩
    · show (x.plain && D.plains xs) = true
      rw [a, a']; rfl
    · show (x.pyO.showable && PyData.showableAll (D.pysO xs)) = true
      rw [b, b']; rfl
    · show max x.pyO.depth (PyData.depthAll (D.pysO xs)) ≤ max x.dx (D.dxs xs)
      omega
    · show x.pyO.shown.length + ((PyData.shownAll (D.pysO xs)).map (·.length)).sum + 2 * ((PyData.shownAll (D.pysO xs)).length + 1) ≤ 70 * (x.wx + 1 + D.wxs xs)
      omega
end
mutual
theorem okx_mono {B C : Nat} (hc : B ≤ C) : ∀ d : D, d.okx B → d.okx C
  | .non, h => h
  | .bl _, h => h
  | .int _, h => intB.mono h hc
  | .str _, h => h
  | .tup xs, h => okxs_mono hc xs h
  | .lst xs, h => okxs_mono hc xs h
  | .dct _, h => h
  | .scr _, h => h
  | .ref _, h => h
  | .ty _, h => h
  | .gl _, h => h
  | .pr _ _, h => h
  | .obj _ _, h => h
  | .exn _ _, h => h
theorem okxs_mono {B C : Nat} (hc : B ≤ C) : ∀ xs : List D, D.okxs B xs → D.okxs C xs
  | [], h => h
  | x :: xs, h => ⟨okx_mono hc x h.1, okxs_mono hc xs h.2⟩
end
/-- a value: leaves of B, of weight w, of depth k -/
structure Vl (B w k : Nat) (d : D) : Prop where
  ok : d.okx B
  wt : d.wx ≤ w
  dp : d.dx ≤ k
theorem Vl.mono {B w k B' w' k' : Nat} {d : D} (h : Vl B w k d) (h1 : B ≤ B') (h2 : w ≤ w') (h3 : k ≤ k') : Vl B' w' k' d := ⟨okx_mono h1 d h.ok, Nat.le_trans h.wt h2, Nat.le_trans h.dp h3⟩
theorem Vl.shx {w k : Nat} {d : D} (h : Vl 10 w k d) : Shx (70 * w) k d := (okx_shx d h.ok).mono (Nat.mul_le_mul_left _ h.wt) h.dp
theorem Vl.tup {B w k : Nat} {xs : List D} (h : ∀ x ∈ xs, x.okx B ∧ x.dx ≤ k) (hw : D.wxs xs ≤ w) : Vl B (1 + w) (k + 1) (.tup xs) :=
  ⟨okxs_iff.mpr fun x hx => (h x hx).1, by show 1 + D.wxs xs ≤ _; omega, by show D.dxs xs + 1 ≤ _; have := dxs_le.mpr fun x hx => (h x hx).2; omega⟩
theorem Vl.lst {B w k : Nat} {xs : List D} (h : ∀ x ∈ xs, x.okx B ∧ x.dx ≤ k) (hw : D.wxs xs ≤ w) : Vl B (1 + w) (k + 1) (.lst xs) :=
  ⟨okxs_iff.mpr fun x hx => (h x hx).1, by show 1 + D.wxs xs ≤ _; omega, by show D.dxs xs + 1 ≤ _; have := dxs_le.mpr fun x hx => (h x hx).2; omega⟩
end DL

namespace DL
open PySem PySem.Spec PyProof.Rows L2
def oddA : List D := [.non, .bl true, .bl false, .int (-1), .int 0, .int 1, .int 2, .int 9, .int 31, .int (10 ^ 59), .str [], .str [97], .str [65], .str [97, 98], .str [97, 32, 98], .tup [], .lst [], .dct [],
  .tup [.int 0], .lst [.int 0], .tup [.str [97], .int 1], .tup [.str [97]], .dct [(.inr (S [97]), .int 1)], .tup [.non, .int 1], .tup [.str [97], .bl true], .tup [.str [], .str [98]]]
theorem oddA_vl : ∀ d ∈ oddA, Vl 0 12 1 d := by
  intro d hd
  unfold oddA at hd
  simp only [List.mem_cons, List.mem_nil_iff, or_false] at hd
  rcases hd with rfl | rfl | rfl | rfl | rfl | rfl | rfl | rfl | rfl | rfl | rfl | rfl | rfl | rfl | rfl | rfl | rfl | rfl | rfl | rfl | rfl | rfl | rfl | rfl | rfl | rfl <;>
    exact ⟨by simp [D.okx, D.okxs, intB], by simp [D.wx, D.wxs], by simp [D.dx, D.dxs]⟩
def sp_lawA_odd : DSp := drawSpD 1 fun r R => r = [] ∧ R = fun d => d ∈ oddA
theorem odd_ok {j c : Addr} {b : Nat} {μ0 μ : Sto} {Q : DK} {E : DXK} (h : StD j c μ0 b μ) (hb : b + 1 ≤ 1000000) (q : ∀ d μ', d ∈ oddA → StD j c μ0 (b + 1) μ' → Q d μ') : sp_lawA_odd [.ref j] μ Q E :=
  drawD_ok h hb ⟨rfl, rfl⟩ fun d μ' h1 h2 => q d μ' h1 h2
def b_lawA_odd_2 : TSD :=
  (dRet (dOp rdIx (dOp rdAdd (dLook 1) (dLst (dCons (dTup (dCons (dC (.int 0)) dNil)) (dCons (dLst (dCons (dC (.int 0)) dNil)) (dCons (dTup (dCons (dC (.str [97])) (dCons (dC (.int 1)) dNil))) (dCons (dTup (dCons (dC (.str [97])) dNil)) (dCons (dC (.dct [(.inr (S [97]), .int 1)])) (dCons (dTup (dCons (dC .non) (dCons (dC (.int 1)) dNil))) (dCons (dTup (dCons (dC (.str [97])) (dCons (dC (.bl true)) dNil))) (dCons (dTup (dCons (dC (.str [])) (dCons (dC (.str [98])) dNil))) dNil)))))))))) (dCall sp_law_draw (dCons (dVar 0) (dCons (dC (.int 26)) dNil)) noD)))
/-- _law_odd(_law_deck_here); slots 0:_law_deck_here 1:_law_some -/
def b_lawA_odd : TSD :=
  (dSeq (dSetR 1 (dVal (dLst (dCons (dC .non) (dCons (dC (.bl true)) (dCons (dC (.bl false)) (dCons (dNeg (dC (.int 1))) (dCons (dC (.int 0)) (dCons (dC (.int 1)) (dCons (dC (.int 2)) (dCons (dC (.int 9)) (dCons (dC (.int 31)) (dCons (dOp rdPow (dC (.int 10)) (dC (.int 59))) (dCons (dC (.str [])) (dCons (dC (.str [97])) (dCons (dC (.str [65])) (dCons (dC (.str [97, 98])) (dCons (dC (.str [97, 32, 98])) (dCons (dTup dNil) (dCons (dLst dNil) (dCons (dC (.dct [])) dNil)))))))))))))))))))))
  b_lawA_odd_2)
theorem len_lawA_odd : ∀ ds μ Q E, sp_lawA_odd ds μ Q E → ds.length = 1 := by
  rintro ds μ Q E ⟨j, c, b, r, rfl, _, _, R, ⟨rfl, _⟩, _⟩; rfl
theorem ok_lawA_odd : ∀ ds μ Q E, sp_lawA_odd ds μ Q E → b_lawA_odd { nx := fun _ μ' => Q .non μ', rt := Q } (startD 2 ds) μ := by
  rintro ds μ Q E ⟨j, c, b, r, rfl, hD, hb, R, ⟨rfl, rfl⟩, q⟩
  have s0 : StD j c μ b μ := ⟨hD, .refl⟩
  unfold b_lawA_odd
  rw [dSeq]
  simp [powOk, -dSeq]
  unfold b_lawA_odd_2
  simp
  refine draw1_ok (m := 26) s0 (by omega) (by omega) (by omega) fun y μ1 hy s1 => ?_
  obtain ⟨d, h1, h2⟩ := atI_of (xs := oddA) (i := (y : Int)) (by omega) (by show (y : Int) < 26; omega)
  exact ⟨d, h1, q d μ1 h2 s1.1 s1.2⟩
end DL

namespace DL
open PySem PySem.Spec PyProof.Rows L2
/-- the object at an address, as it is -/
abbrev kpO (oe : Obj) : HO := .frz oe (.own 0)
section
variable {X : Cx} {pins : List (Addr × Obj)} {σ : L2.St} {H : Hp} {s : Shared}
end
section
variable {X : Cx} {x n : Str} {cv : Value} {i : Nat} {body suite : List Stmt} {b₀ : Stmt} {np pos pos' : Pos} {tb : WX → TS} {ts : TS} {Wout : WX}
end
end DL

namespace DL
open PySem PySem.Spec PyProof.Rows L2
section
variable {K : PySem.W.Frag} {mg : Str → Option Value} {B : Bs} {F F' H H' : Hp} {μ μ' : Sto} {ρ : DEnv} {σ : L2.St}
/-- something that nobody owns is told never to change -/
theorem RelB.inF (r : RelB K mg B F ρ μ σ H) {p : Addr} {u : HO} (hB : B.H p = none) (hF : F p = none) (hm : μ p = none) (hH : H p = some u) (nl : ∀ vs, u ≠ .lst vs) : RelB K mg B (upd F p u) ρ μ σ H := by
  have mono : ∀ a o, F a = some o → upd F p u a = some o := fun a o e => by rw [upd_ne (ne_of_none e hF)]; exact e
  refine ⟨⟨⟨fun a o e => ?_, fun a m e => ?_, fun a m e => ?_⟩, r.rel.len, fun i s e => ?_, r.rel.apart⟩, ⟨fun a o e => mono a o (r.ext.mono a o e), fun a o e n => ?_, r.ext.live⟩, r.new⟩
  · by_cases ha : a = p
    · subst ha; rw [upd_same] at e; cases e; exact hH
    · rw [upd_ne ha] at e; exact r.rel.ok.sub a o e
  · have ha : a ≠ p := fun q => by subst q; rw [hm] at e; cases e
    rw [upd_ne ha]; exact r.rel.ok.dis a m e
  · exact (r.rel.ok.sto a m e).up mono rfl
  · obtain ⟨v, g1, g2⟩ := r.rel.slot i s e
    refine ⟨v, g1, ?_⟩
    cases s with
    | val d => exact Dt.mono mono g2
    | own xs =>
      obtain ⟨a, vs, q1, q2, q3, q4, q5⟩ := g2
      have ha : a ≠ p := fun q => by subst q; rw [hH] at q4; exact nl _ (Option.some.inj q4)
      exact ⟨a, vs, q1, (upd_ne ha).trans q2, q3, q4, q5.mono mono⟩
  · obtain ⟨g1, g2, g3⟩ := r.ext.keep a o e n
    have ha : a ≠ p := fun q => by subst q; rw [hB] at e; cases e
    exact ⟨g1, (upd_ne ha).trans g2, g3⟩
theorem RelB.exn {od : Option Addr} {cv : Value} {c : Str} {fs : List (Str × D)} {xa : Addr} {xo : Obj} (r : RelB K mg B F ρ μ σ H) (x : XD K mg B.H F μ H cv od c fs) (na : H xa = none) (hz : Zc cv od xo) (hf : ∃ xs, xo.data = .fields xs) :
    ∃ F', FLe F F' ∧ RelB K mg B F' ρ μ σ (upd H xa (kpO xo)) ∧ Dt K mg F' (.ref xa) (.exn c fs) := by
  obtain ⟨C, rfl, hc, ⟨rfl, rfl⟩ | ⟨d, vfs, rfl, h0, h1, h2, h3, h4, h5, h6⟩⟩ := x
  · obtain ⟨o, e⟩ := r.rel.ok.lay na (kpO xo)
    exact ⟨_, e.mono, r.step e o, .exn0 hc upd_same hz hf⟩
  · have r1 := r.inF h1 h2 h3 h4 fun vs z => by cases z
    have m1 : ∀ a o, F a = some o → upd F d (.xd vfs) a = some o := fun a o e => by rw [upd_ne (ne_of_none e h2)]; exact e
    obtain ⟨o, e⟩ := r1.rel.ok.lay na (kpO xo)
    have hd : d ≠ xa := fun q => by subst q; rw [na] at h4; cases h4
    exact ⟨_, fun a o h => e.mono a o (m1 a o h), r1.step e o, .exn1 hc upd_same hz hf ((upd_ne hd).trans upd_same) h5 (h6.mono fun a o h => e.mono a o (m1 a o h))⟩
end
/-- the ends of an except suite -/
def exE (i : Nat) (E : DEnds) : DEnds := { nx := fun ρ μ => E.nx (ρ.set i none) μ, rt := E.rt, bk := fun ρ μ => E.bk (ρ.set i none) μ, ct := fun ρ μ => E.ct (ρ.set i none) μ }
@[simp] theorem exE_rt {i : Nat} {E : DEnds} {d : D} {μ : Sto} : (exE i E).rt d μ = E.rt d μ := rfl
@[simp] theorem exE_nx {i : Nat} {E : DEnds} {ρ : DEnv} {μ : Sto} : (exE i E).nx ρ μ = E.nx (ρ.set i none) μ := rfl
@[simp] theorem exE_bk {i : Nat} {E : DEnds} {ρ : DEnv} {μ : Sto} : (exE i E).bk ρ μ = E.bk (ρ.set i none) μ := rfl
@[simp] theorem exE_ct {i : Nat} {E : DEnds} {ρ : DEnv} {μ : Sto} : (exE i E).ct ρ μ = E.ct (ρ.set i none) μ := rfl
section
variable {X : Cx} {B : Bs} {x n : Str} {cv : Value} {i : Nat} {body suite : List Stmt} {b₀ : Stmt} {np pos pos' : Pos} {cat : Str → Option Bool} {tb : (DEnv → DXK) → TSD} {ts : TSD} {Wout : DEnv → DXK}
end
def rdIsE (T : XTab) : RDn
  | [.exn c _, .gl q], μ, Q => ∃ b, T.get c q = some b ∧ Q (.bl b) μ
  | [.exn c _, .ty t], μ, Q => ∃ b, T.getT c t = some b ∧ Q (.bl b) μ
  | [.exn c _, .tup cs], μ, Q => cs ≠ [] ∧ ∃ b, T.any c cs = some b ∧ Q (.bl b) μ
  | _, _, _ => False
@[simp] theorem rdIsE_1 {c q : Str} {fs : List (Str × D)} {T : XTab} {μ : Sto} {Q : DK} : rdIsE T [.exn c fs, .gl q] μ Q = (∃ b, T.get c q = some b ∧ Q (.bl b) μ) := rfl
@[simp] theorem rdIsE_2 {c : Str} {t : String} {fs : List (Str × D)} {T : XTab} {μ : Sto} {Q : DK} : rdIsE T [.exn c fs, .ty t] μ Q = (∃ b, T.getT c t = some b ∧ Q (.bl b) μ) := rfl
@[simp] theorem rdIsE_3 {c : Str} {cs : List D} {fs : List (Str × D)} {T : XTab} {μ : Sto} {Q : DK} : rdIsE T [.exn c fs, .tup cs] μ Q = (cs ≠ [] ∧ ∃ b, T.any c cs = some b ∧ Q (.bl b) μ) := rfl
/-- an exception that stands in what never changes -/
def ExnAt (mg : Str → Option Value) (H : Hp) (a : Addr) (c : Str) (C : Addr) (od : Option Addr) : Prop := mg c = some (.ref C) ∧ ∃ oe, H a = some (kpO oe) ∧ Zc (.ref C) od oe ∧ (∃ vs, oe.data = .fields vs) ∧ ∀ dd, od = some dd → ∃ fs, H dd = some (.xd fs)
theorem exn_at {K : PySem.W.Frag} {mg : Str → Option Value} {F H : Hp} {μ : Sto} (o : Ok K mg F μ H) {v : V} {c : Str} {fs : List (Str × D)} (w : Dt K mg F v (.exn c fs)) : ∃ a C od, v = .ref a ∧ ExnAt mg H a c C od := by
  cases w with
  | exn0 h1 h2 h3 h4 => exact ⟨_, _, _, rfl, h1, _, o.sub _ _ h2, h3, h4, fun dd z => by cases z⟩
  | exn1 h1 h2 h3 h4 h5 h6 h7 => exact ⟨_, _, _, rfl, h1, _, o.sub _ _ h2, h3, h4, fun dd z => by cases z; exact ⟨_, o.sub _ _ h5⟩⟩
theorem inst_at {X : Cx} {pins : List (Addr × Obj)} {σ : L2.St} {H : Hp} {s : Shared} {mg : Str → Option Value} {a C : Addr} {c : Str} {od : Option Addr} (I : Inv X pins σ H s) (h : ExnAt mg H a c C od) : ∃ oe od', PySem.W.InstAt s.heap a oe C od' := by
  obtain ⟨_, oe, h1, h2, ⟨vs, h3⟩, h4⟩ := h
  have get := (I.hok a _ h1).1
  cases od with
  | none => exact ⟨oe, none, get, h2.1, by unfold PySem.W.notCls; rw [h3] <;> rfl, by rw [h2.2]; trivial⟩
  | some dd =>
    obtain ⟨fs, hfs⟩ := h4 dd rfl
    have hx : ObjOk X.prog X.w H s.heap dd (.xd fs) := I.hok dd _ hfs
    obtain ⟨mA, hns, hr⟩ := hx
    obtain ⟨o, ho, hl⟩ := lookIn_ns hns
    exact ⟨oe, some o, get, h2.1, by unfold PySem.W.notCls; rw [h3] <;> rfl, by rw [h2.2]; exact ho⟩
def rIsE (K : PySem.W.Frag) (mg : Str → Option Value) : List V → Hp → VK → Prop := fun xs H Q => ∃ (a C : Addr) (c : Str) (od : Option Addr) (cv : V) (b : Bool), xs = [.ref a, cv] ∧ ExnAt mg H a c C od ∧ ExcC K C ∧
  ((∃ u, ClsV cv u ∧ PySem.W.kitOne K (.ref C) u = some b) ∨ ∃ tp ob cs us, cv = .ref tp ∧ H tp = some (.frz ob (.tup cs)) ∧ Paired ClsV cs us ∧ PySem.W.kitAny K (.ref C) us = some b) ∧ Q (.bl b) H
theorem call_isE {X : Cx} : CallR X (.builtin "isinstance") (rIsE X.K X.mg) := by
  intro pins s σ H xs us Q I r h
  obtain ⟨a, C, c, od, cv, b, rfl, hat, EC, hcl, q⟩ := h
  obtain ⟨u1, u2, rfl, r1, r2⟩ := vals2 r
  obtain rfl : u1 = Value.ref a := r1
  obtain ⟨oe, od', J⟩ := inst_at I hat
  have KX := PySem.W.kitx_exc (K := X.K) (C := C) (x := a) (ox := oe) (od := od') (by obtain ⟨cd, hc, _⟩ := PySem.W.any_some EC.hd; rw [hc]; rfl) EC.hg EC.hk EC.hs EC.ha EC.hn EC.ht EC.hm
  rcases hcl with ⟨u, hu, hk⟩ | ⟨tp, ob, cs, us, rfl, hT, hp, hk⟩
  · have e2 := hu.eq r2
    subst e2
    exact PySem.W.kia_one KX I.kIn J hk (fun z => nomatch z) fun tk => ⟨.bl b, H, I.kept (t' := tk) fun _ _ z => z, rfl, q⟩
  · obtain rfl : u2 = Value.ref tp := r2
    obtain ⟨_, _, its, rv, o, h1, h2, n, h3⟩ := (show ObjOk X.prog X.w H s.heap tp (.frz ob (.tup cs)) from I.hok tp _ hT)
    have e3 := ClsV.all hp rv
    subst e3
    obtain ⟨oc, odd, dt, sl⟩ := o
    simp only at h2 h3
    subst h2 h3
    exact PySem.W.kia_tup KX I.kIn J h1 hk (fun z => nomatch z) fun tk => ⟨.bl b, H, I.kept (t' := tk) fun _ _ z => z, rfl, q⟩
theorem cs_isE {K : PySem.W.Frag} {mg : Str → Option Value} {T : XTab} (TX : XTabOk K mg T) : CallS K mg (rIsE K mg) (rdIsE T) := by
  intro F μ H vs ds Qd Q o w h k
  unfold rdIsE at h
  split at h
  · obtain ⟨u, v, rfl, wk, wt⟩ := w.two
    obtain ⟨b, h2, q⟩ := h
    rcases wk with wk | ⟨_, _, _, _, e, _⟩
    · obtain ⟨a, C, od, rfl, hat⟩ := exn_at o wk
      obtain ⟨Q', g1, g2, _, g3⟩ := TX.get h2 hat.1
      rcases wt with wt | ⟨_, _, _, _, e, _⟩
      · cases wt
        rename_i a' ha'
        rw [g1] at ha'
        cases ha'
        exact ⟨a, C, _, od, _, b, rfl, hat, g3, .inl ⟨_, .own _, g2⟩, fin0 o k (.bl _) q⟩
      · cases e
    · cases e
  · obtain ⟨u, v, rfl, wk, wt⟩ := w.two
    obtain ⟨b, h2, q⟩ := h
    rcases wk with wk | ⟨_, _, _, _, e, _⟩
    · obtain ⟨a, C, od, rfl, hat⟩ := exn_at o wk
      obtain ⟨g2, g3⟩ := TX.getT h2 hat.1
      rcases wt with wt | ⟨_, _, _, _, e, _⟩
      · cases wt
        exact ⟨a, C, _, od, _, b, rfl, hat, g3, .inl ⟨_, .ty _, g2⟩, fin0 o k (.bl _) q⟩
      · cases e
    · cases e
  · rename_i cs
    obtain ⟨u, v, rfl, wk, wt⟩ := w.two
    obtain ⟨hne, b, h2, q⟩ := h
    rcases wk with wk | ⟨_, _, _, _, e, _⟩
    · obtain ⟨a, C, od, rfl, hat⟩ := exn_at o wk
      obtain ⟨tp, vs, rfl, _, ⟨ob, _, hp⟩, hds⟩ := wt.tup o
      obtain ⟨us, g1, g2⟩ := TX.any hat.1 _ _ _ h2 hds
      have g3 : ExcC K C := by
        cases cs with
        | nil => exact absurd rfl hne
        | cons d cs =>
          cases d <;> first | cases h2; done | skip
          · rename_i n
            cases hg : T.getT _ n with
            | none => unfold XTab.any at h2; rw [hg] at h2; cases h2
            | some b' => exact (TX.getT hg hat.1).2
          · rename_i x
            cases hg : T.get _ x with
            | none => unfold XTab.any at h2; rw [hg] at h2; cases h2
            | some b' => exact (TX.get hg hat.1).choose_spec.2.2.2
      exact ⟨a, C, _, od, _, b, rfl, hat, g3, .inr ⟨tp, ob, vs, us, rfl, o.sub _ _ hp, g1, g2⟩, fin0 o k (.bl _) q⟩
    · cases e
  · exact h.elim
/-- e.f, of an exception of one of the classes cs -/
def fldE (cs : List Str) (f : Str) : D → (D → Prop) → Prop
  | .exn c fs, Q => c ∈ cs ∧ ∃ v, fs.lookup f = some v ∧ Q v
  | _, _ => False
@[simp] theorem fldE_1 {cs : List Str} {f c : Str} {fs : List (Str × D)} {Q : D → Prop} : fldE cs f (.exn c fs) Q = (c ∈ cs ∧ ∃ v, fs.lookup f = some v ∧ Q v) := rfl
@[simp] def dFldE (cs : List Str) (f : Str) (d : TED) : TED := fun ρ μ Q => d ρ μ fun x μ1 => fldE cs f x fun v => Q v μ1
section
variable {X : Cx} {f : Str} {e : Expr} {d : TED} {te : TE} {pos : Pos} {cs : List Str}
theorem pe_fldE (he : PE X e te) (hb : attributeBase e f X.env (eval e X.env) = eval e X.env) : PE X (.Attribute e f pos) (fun σ H Q => te σ H fun x H1 => ∃ (a C dd : Addr) (c : Str) (fs : List (Str × V)) (v : V), x = .ref a ∧ ExnAt X.mg H1 a c C (some dd) ∧ XfC X.K C ∧ PySem.W.findIn X.K (.ref C) f = some none ∧ H1 dd = some (.xd fs) ∧ fs.lookup f = some v ∧ Q v H1) := by
  refine ⟨fun pins s σ H Q I h => ?_⟩
  refine attr_of hb (thn (he.run pins s σ H _ I h) fun u s1 hh => ?_)
  obtain ⟨x, H1, I1, rx, a, C, dd, c, fs, v, rfl, hat, TC, hno, hdd, hl, q⟩ := hh
  obtain rfl : u = Value.ref a := rx
  obtain ⟨_, oe, h1, h2, ⟨vs, h3⟩, _⟩ := hat
  have get := (I1.hok a _ h1).1
  have hx : ObjOk X.prog X.w H1 s1.heap dd (.xd fs) := I1.hok dd _ hdd
  obtain ⟨mA, hns, hr⟩ := hx
  obtain ⟨od, ho, hlk⟩ := lookIn_ns hns
  obtain ⟨u, hu, ru⟩ := RelO.some_of (v := v) (o := mA f) (by rw [← hl]; exact hr f)
  have J : PySem.W.InstAt s1.heap a oe C (some od) := ⟨get, h2.1, by unfold PySem.W.notCls; rw [h3] <;> rfl, by rw [h2.2]; exact ho⟩
  exact HandSPX.exc_get I1.kIn J TC.ga TC.gg TC.exC (PySem.W.findObj_own TC.hdC hno rfl (by rw [hlk, hu])) (handed_of ru) ⟨v, H1, I1.tok _, ru, q⟩
theorem de_fldE (T : ∀ c ∈ cs, FldRd X.K X.mg c f) (he : DE X e d) (hb : attributeBase e f X.env (eval e X.env) = eval e X.env := by rfl) : DE X (.Attribute e f pos) (dFldE cs f d) := (pe_fldE he hb).weaken fun σ H Q h => by
  obtain ⟨F, ρ, μ, Qd, R, hd, kk⟩ := h
  refine ⟨F, ρ, μ, _, R, hd, fun v F1 μ1 H1 dv e1 o1 w1 q1 => ?_⟩
  cases dv <;> first | exact q1.elim | skip
  obtain ⟨hm, y, hl, q1⟩ := q1
  obtain ⟨CB, g1, g2, g3⟩ := (T _ hm).ex
  cases w1 with
  | exn0 h1 h2 h3 h4 => cases hl
  | exn1 h1 h2 h3 h4 h5 h6 h7 =>
    rw [g1] at h1
    cases h1
    obtain ⟨w, l1, l2⟩ := dts_lookup h6 h7 hl
    exact ⟨_, _, _, _, _, w, rfl, ⟨g1, _, o1.sub _ _ h2, h3, h4, fun dd z => by cases z; exact ⟨_, o1.sub _ _ h5⟩⟩, g2, g3, o1.sub _ _ h5, l1, kk w F1 μ1 H1 y e1 o1 l2 q1⟩
end
end DL

namespace DL
open PySem PySem.Spec PyProof.Rows L2
section
variable {X : Cx} {e : Expr} {t : L2.St → Hp → XK → Prop} {d : TXD}
theorem pe_mk (h : PMk X e t) : PE X e (fun σ H Q => t σ H fun cls od H1 => ∀ (xa : Addr) (oe : Obj), H1 xa = none → Zc cls od oe → (∃ xs, oe.data = .fields xs) → Q (.ref xa) (upd H1 xa (kpO oe))) := by
  refine ⟨fun pins s σ H Q I q => thn (h pins s σ H _ I q) fun u s' hu => ?_⟩
  obtain ⟨a, oe, vs, sI, H', cls, d, rfl, J, k, hne, ha, hz, hd, h1, na, os, ag, r, q⟩ := hu
  obtain ⟨hp, g, dr, tk, o⟩ := s'
  have J2 := J.laidN (t' := tk) (o := kpO oe) k hne na ⟨ha, ⟨oe, ha⟩⟩
  have J3 : Inv X pins σ (upd H' a (kpO oe)) ⟨hp, g, dr, tk, o⟩ := ⟨J2.ok, os.trans J2.os, ag, J2.base, J2.loc, J2.cell, J2.free, J2.freeC, J2.pin, J2.hok, J2.len⟩
  exact ⟨.ref a, _, J3, rfl, q a oe na hz ⟨vs, hd⟩⟩
def dMkE (d : TXD) : TED := fun ρ μ Q => d ρ μ fun c fs μ1 => Q (.exn c fs) μ1
@[simp] theorem dMkE_f {c f : Str} {t : TAD} {ρ : DEnv} {μ : Sto} {Q : DK} : dMkE (dMkF c f t) ρ μ Q = t ρ μ (fun ds μ1 => match ds with | [d] => Q (.exn c [(f, d)]) μ1 | _ => False) := rfl
@[simp] theorem dMkE_0 {c : Str} {ρ : DEnv} {μ : Sto} {Q : DK} : dMkE (dMk0 c) ρ μ Q = Q (.exn c []) μ := rfl
theorem Ext.inF {F F1 H H1 : Hp} {μ μ1 : Sto} (e : Ext F μ H F1 μ1 H1) {p : Addr} {u : HO} (hH : H p = none) (hF : F1 p = none) : Ext F μ H (upd F1 p u) μ1 H1 := by
  refine ⟨fun a o z => ?_, fun a o z n => ?_, e.live⟩
  · rw [upd_ne (ne_of_none (e.mono a o z) hF)]; exact e.mono a o z
  · obtain ⟨g1, g2, g3⟩ := e.keep a o z n
    rw [upd_ne (ne_of_none z hH)]
    exact ⟨g1, g2, g3⟩
theorem de_mk (h : DX X e d) : DE X e (dMkE d) := (pe_mk h).weaken fun σ H Q hh => by
  obtain ⟨F, ρ, μ, Qd, R, hd, kk⟩ := hh
  refine ⟨F, ρ, μ, _, R, hd, fun cv od F1 μ1 H1 c fs e1 o1 x1 q1 xa oe na hz hf => ?_⟩
  obtain ⟨C, rfl, hc, ⟨rfl, rfl⟩ | ⟨d, vfs, rfl, h0, h1, h2, h3, h4, h5, h6⟩⟩ := x1
  · obtain ⟨o2, e2⟩ := o1.lay na (kpO oe)
    exact kk _ _ _ _ _ (e1.trans e2) o2 (.exn0 hc upd_same hz hf) q1
  · have o2 := o1.freeze h2 h3 h4
    have e2 := e1.inF (u := .xd vfs) h1 h2
    obtain ⟨o3, e3⟩ := o2.lay na (kpO oe)
    have hdx : d ≠ xa := fun q => by subst q; rw [na] at h4; cases h4
    refine kk _ _ _ _ _ (e2.trans e3) o3 (.exn1 hc upd_same hz hf ((upd_ne hdx).trans upd_same) h5 (h6.mono fun a o z => e3.mono a o ?_)) q1
    rw [upd_ne (ne_of_none z h2)]; exact z
end
end DL

namespace DL
open PySem PySem.Spec PyProof.Rows L2
def sp_law : DSp := fun ds μ Q _ => ∃ ns : List Int, ds = [.scr ns] ∧ ns.length ≤ 63 ∧ ∀ μ', Q (.bl true) μ'
theorem fld_error : FldOk "error" := ⟨fun _ _ _ _ _ _ _ _ _ _ _ _ _ _ => rfl, fun _ _ => rfl, fun _ _ _ _ _ _ => rfl, fun _ _ _ _ _ _ => rfl, fun _ _ _ _ => rfl, fun _ _ _ _ => rfl, by decide⟩
def sp_lawA_same : DSp := fun ds μ Q _ => ∃ a b : D, ds = [a, b] ∧ a = b ∧ repOkO a ∧ Q (.bl true) μ
/-- _law_same(_law_found, _law_due); slots 0:_law_found 1:_law_due -/
def b_lawA_same : TSD :=
  (dRet (dOp rdEq (dFn rdReprO (dCons (dLook 0) dNil)) (dFn rdReprO (dCons (dLook 1) dNil))))
theorem len_lawA_same : ∀ ds μ Q E, sp_lawA_same ds μ Q E → ds.length = 2 := by
  rintro ds μ Q E ⟨a, b, rfl, _⟩; rfl
theorem ok_lawA_same : ∀ ds μ Q E, sp_lawA_same ds μ Q E → b_lawA_same { nx := fun _ μ' => Q .non μ', rt := Q } (startD 2 ds) μ := by
  rintro ds μ Q E ⟨a, b, rfl, rfl, hr, q⟩
  unfold b_lawA_same
  simp
  exact ⟨hr, q⟩
/-- the classes of errors, and one error of each -/
def cls04 : List Str := ["BadNumber", "BadOrder", "BadWord", "TooLong", "BadSheet", "BadSheets", "BadLetter", "BadForce", "TooStrong", "Rejected", "BadText", "NoWords", "LastSheet", "Busy", "TooManyEdits", "NothingToUndo", "BadBatch", "NoSheet", "NoPlace", "NoIndex", "NoVersion"]
def errs04 (v : D) : List D := [.exn "BadNumber" [("value", v)], .exn "BadOrder" [("value", v)], .exn "BadWord" [("value", v)], .exn "TooLong" [("limit", v)], .exn "BadSheet" [("index", v)], .exn "BadSheets" [("error", v)], .exn "BadLetter" [("value", v)], .exn "BadForce" [("value", v)], .exn "TooStrong" [("limit", v)], .exn "Rejected" [("index", v)], .exn "BadText" [("index", v)], .exn "NoWords" [], .exn "LastSheet" [], .exn "Busy" [], .exn "TooManyEdits" [], .exn "NothingToUndo" [], .exn "BadBatch" [], .exn "NoSheet" [("value", v)], .exn "NoPlace" [("value", v)], .exn "NoIndex" [("index", v)], .exn "NoVersion" [("value", v)]]
def flags04 (c : Str) : List D := cls04.map fun q => .bl (decide (c = q))
def sp_law_errors : DSp := fun ds μ Q _ => ∃ v : D, ds = [v] ∧ Q (.lst (errs04 v)) μ
def sp_law_fields : DSp := fun ds μ Q _ => ∃ v : D, ds = [v] ∧ Q (.lst (List.replicate 15 v)) μ
def sp_law_flags_of : DSp := fun ds μ Q _ => ∃ (c : Str) (fs : List (Str × D)), ds = [.exn c fs] ∧ c ∈ cls04 ∧ Q (.lst (flags04 c)) μ
def tab_law : XTab := ⟨[(("BadNumber" : Str), ("BadBatch" : Str), false), (("BadNumber" : Str), ("BadForce" : Str), false), (("BadNumber" : Str), ("BadLetter" : Str), false), (("BadNumber" : Str), ("BadNumber" : Str), true), (("BadNumber" : Str), ("BadOrder" : Str), false), (("BadNumber" : Str), ("BadSheet" : Str), false), (("BadNumber" : Str), ("BadSheets" : Str), false), (("BadNumber" : Str), ("BadText" : Str), false), (("BadNumber" : Str), ("BadWord" : Str), false), (("BadNumber" : Str), ("Busy" : Str), false), (("BadNumber" : Str), ("LastSheet" : Str), false), (("BadNumber" : Str), ("NoIndex" : Str), false), (("BadNumber" : Str), ("NoPlace" : Str), false), (("BadNumber" : Str), ("NoSheet" : Str), false), (("BadNumber" : Str), ("NoVersion" : Str), false), (("BadNumber" : Str), ("NoWords" : Str), false), (("BadNumber" : Str), ("NothingToUndo" : Str), false), (("BadNumber" : Str), ("PadError" : Str), true), (("BadNumber" : Str), ("Rejected" : Str), false), (("BadNumber" : Str), ("TooLong" : Str), false), (("BadNumber" : Str), ("TooManyEdits" : Str), false), (("BadNumber" : Str), ("TooStrong" : Str), false), (("BadOrder" : Str), ("BadBatch" : Str), false), (("BadOrder" : Str), ("BadForce" : Str), false), (("BadOrder" : Str), ("BadLetter" : Str), false), (("BadOrder" : Str), ("BadNumber" : Str), false), (("BadOrder" : Str), ("BadOrder" : Str), true), (("BadOrder" : Str), ("BadSheet" : Str), false), (("BadOrder" : Str), ("BadSheets" : Str), false), (("BadOrder" : Str), ("BadText" : Str), false), (("BadOrder" : Str), ("BadWord" : Str), false), (("BadOrder" : Str), ("Busy" : Str), false), (("BadOrder" : Str), ("LastSheet" : Str), false), (("BadOrder" : Str), ("NoIndex" : Str), false), (("BadOrder" : Str), ("NoPlace" : Str), false), (("BadOrder" : Str), ("NoSheet" : Str), false), (("BadOrder" : Str), ("NoVersion" : Str), false), (("BadOrder" : Str), ("NoWords" : Str), false), (("BadOrder" : Str), ("NothingToUndo" : Str), false), (("BadOrder" : Str), ("PadError" : Str), true), (("BadOrder" : Str), ("Rejected" : Str), false), (("BadOrder" : Str), ("TooLong" : Str), false), (("BadOrder" : Str), ("TooManyEdits" : Str), false), (("BadOrder" : Str), ("TooStrong" : Str), false), (("BadWord" : Str), ("BadBatch" : Str), false), (("BadWord" : Str), ("BadForce" : Str), false), (("BadWord" : Str), ("BadLetter" : Str), false), (("BadWord" : Str), ("BadNumber" : Str), false), (("BadWord" : Str), ("BadOrder" : Str), false), (("BadWord" : Str), ("BadSheet" : Str), false), (("BadWord" : Str), ("BadSheets" : Str), false), (("BadWord" : Str), ("BadText" : Str), false), (("BadWord" : Str), ("BadWord" : Str), true), (("BadWord" : Str), ("Busy" : Str), false), (("BadWord" : Str), ("LastSheet" : Str), false), (("BadWord" : Str), ("NoIndex" : Str), false), (("BadWord" : Str), ("NoPlace" : Str), false), (("BadWord" : Str), ("NoSheet" : Str), false), (("BadWord" : Str), ("NoVersion" : Str), false), (("BadWord" : Str), ("NoWords" : Str), false), (("BadWord" : Str), ("NothingToUndo" : Str), false), (("BadWord" : Str), ("PadError" : Str), true), (("BadWord" : Str), ("Rejected" : Str), false), (("BadWord" : Str), ("TooLong" : Str), false), (("BadWord" : Str), ("TooManyEdits" : Str), false), (("BadWord" : Str), ("TooStrong" : Str), false), (("TooLong" : Str), ("BadBatch" : Str), false), (("TooLong" : Str), ("BadForce" : Str), false), (("TooLong" : Str), ("BadLetter" : Str), false), (("TooLong" : Str), ("BadNumber" : Str), false), (("TooLong" : Str), ("BadOrder" : Str), false), (("TooLong" : Str), ("BadSheet" : Str), false), (("TooLong" : Str), ("BadSheets" : Str), false), (("TooLong" : Str), ("BadText" : Str), false), (("TooLong" : Str), ("BadWord" : Str), false), (("TooLong" : Str), ("Busy" : Str), false), (("TooLong" : Str), ("LastSheet" : Str), false), (("TooLong" : Str), ("NoIndex" : Str), false), (("TooLong" : Str), ("NoPlace" : Str), false), (("TooLong" : Str), ("NoSheet" : Str), false), (("TooLong" : Str), ("NoVersion" : Str), false), (("TooLong" : Str), ("NoWords" : Str), false), (("TooLong" : Str), ("NothingToUndo" : Str), false), (("TooLong" : Str), ("PadError" : Str), true), (("TooLong" : Str), ("Rejected" : Str), false), (("TooLong" : Str), ("TooLong" : Str), true), (("TooLong" : Str), ("TooManyEdits" : Str), false), (("TooLong" : Str), ("TooStrong" : Str), false), (("BadSheet" : Str), ("BadBatch" : Str), false), (("BadSheet" : Str), ("BadForce" : Str), false), (("BadSheet" : Str), ("BadLetter" : Str), false), (("BadSheet" : Str), ("BadNumber" : Str), false), (("BadSheet" : Str), ("BadOrder" : Str), false), (("BadSheet" : Str), ("BadSheet" : Str), true), (("BadSheet" : Str), ("BadSheets" : Str), false), (("BadSheet" : Str), ("BadText" : Str), false), (("BadSheet" : Str), ("BadWord" : Str), false), (("BadSheet" : Str), ("Busy" : Str), false), (("BadSheet" : Str), ("LastSheet" : Str), false), (("BadSheet" : Str), ("NoIndex" : Str), false), (("BadSheet" : Str), ("NoPlace" : Str), false), (("BadSheet" : Str), ("NoSheet" : Str), false), (("BadSheet" : Str), ("NoVersion" : Str), false), (("BadSheet" : Str), ("NoWords" : Str), false), (("BadSheet" : Str), ("NothingToUndo" : Str), false), (("BadSheet" : Str), ("PadError" : Str), true), (("BadSheet" : Str), ("Rejected" : Str), false), (("BadSheet" : Str), ("TooLong" : Str), false), (("BadSheet" : Str), ("TooManyEdits" : Str), false), (("BadSheet" : Str), ("TooStrong" : Str), false), (("BadSheets" : Str), ("BadBatch" : Str), false), (("BadSheets" : Str), ("BadForce" : Str), false), (("BadSheets" : Str), ("BadLetter" : Str), false), (("BadSheets" : Str), ("BadNumber" : Str), false), (("BadSheets" : Str), ("BadOrder" : Str), false), (("BadSheets" : Str), ("BadSheet" : Str), false), (("BadSheets" : Str), ("BadSheets" : Str), true), (("BadSheets" : Str), ("BadText" : Str), false), (("BadSheets" : Str), ("BadWord" : Str), false), (("BadSheets" : Str), ("Busy" : Str), false), (("BadSheets" : Str), ("LastSheet" : Str), false), (("BadSheets" : Str), ("NoIndex" : Str), false), (("BadSheets" : Str), ("NoPlace" : Str), false), (("BadSheets" : Str), ("NoSheet" : Str), false), (("BadSheets" : Str), ("NoVersion" : Str), false), (("BadSheets" : Str), ("NoWords" : Str), false), (("BadSheets" : Str), ("NothingToUndo" : Str), false), (("BadSheets" : Str), ("PadError" : Str), true), (("BadSheets" : Str), ("Rejected" : Str), false), (("BadSheets" : Str), ("TooLong" : Str), false), (("BadSheets" : Str), ("TooManyEdits" : Str), false), (("BadSheets" : Str), ("TooStrong" : Str), false), (("BadLetter" : Str), ("BadBatch" : Str), false), (("BadLetter" : Str), ("BadForce" : Str), false), (("BadLetter" : Str), ("BadLetter" : Str), true), (("BadLetter" : Str), ("BadNumber" : Str), false), (("BadLetter" : Str), ("BadOrder" : Str), false), (("BadLetter" : Str), ("BadSheet" : Str), false), (("BadLetter" : Str), ("BadSheets" : Str), false), (("BadLetter" : Str), ("BadText" : Str), false), (("BadLetter" : Str), ("BadWord" : Str), false), (("BadLetter" : Str), ("Busy" : Str), false), (("BadLetter" : Str), ("LastSheet" : Str), false), (("BadLetter" : Str), ("NoIndex" : Str), false), (("BadLetter" : Str), ("NoPlace" : Str), false), (("BadLetter" : Str), ("NoSheet" : Str), false), (("BadLetter" : Str), ("NoVersion" : Str), false), (("BadLetter" : Str), ("NoWords" : Str), false), (("BadLetter" : Str), ("NothingToUndo" : Str), false), (("BadLetter" : Str), ("PadError" : Str), true), (("BadLetter" : Str), ("Rejected" : Str), false), (("BadLetter" : Str), ("TooLong" : Str), false), (("BadLetter" : Str), ("TooManyEdits" : Str), false), (("BadLetter" : Str), ("TooStrong" : Str), false), (("BadForce" : Str), ("BadBatch" : Str), false), (("BadForce" : Str), ("BadForce" : Str), true), (("BadForce" : Str), ("BadLetter" : Str), false), (("BadForce" : Str), ("BadNumber" : Str), false), (("BadForce" : Str), ("BadOrder" : Str), false), (("BadForce" : Str), ("BadSheet" : Str), false), (("BadForce" : Str), ("BadSheets" : Str), false), (("BadForce" : Str), ("BadText" : Str), false), (("BadForce" : Str), ("BadWord" : Str), false), (("BadForce" : Str), ("Busy" : Str), false), (("BadForce" : Str), ("LastSheet" : Str), false), (("BadForce" : Str), ("NoIndex" : Str), false), (("BadForce" : Str), ("NoPlace" : Str), false), (("BadForce" : Str), ("NoSheet" : Str), false), (("BadForce" : Str), ("NoVersion" : Str), false), (("BadForce" : Str), ("NoWords" : Str), false), (("BadForce" : Str), ("NothingToUndo" : Str), false), (("BadForce" : Str), ("PadError" : Str), true), (("BadForce" : Str), ("Rejected" : Str), false), (("BadForce" : Str), ("TooLong" : Str), false), (("BadForce" : Str), ("TooManyEdits" : Str), false), (("BadForce" : Str), ("TooStrong" : Str), false), (("TooStrong" : Str), ("BadBatch" : Str), false), (("TooStrong" : Str), ("BadForce" : Str), false), (("TooStrong" : Str), ("BadLetter" : Str), false), (("TooStrong" : Str), ("BadNumber" : Str), false), (("TooStrong" : Str), ("BadOrder" : Str), false), (("TooStrong" : Str), ("BadSheet" : Str), false), (("TooStrong" : Str), ("BadSheets" : Str), false), (("TooStrong" : Str), ("BadText" : Str), false), (("TooStrong" : Str), ("BadWord" : Str), false), (("TooStrong" : Str), ("Busy" : Str), false), (("TooStrong" : Str), ("LastSheet" : Str), false), (("TooStrong" : Str), ("NoIndex" : Str), false), (("TooStrong" : Str), ("NoPlace" : Str), false), (("TooStrong" : Str), ("NoSheet" : Str), false), (("TooStrong" : Str), ("NoVersion" : Str), false), (("TooStrong" : Str), ("NoWords" : Str), false), (("TooStrong" : Str), ("NothingToUndo" : Str), false), (("TooStrong" : Str), ("PadError" : Str), true), (("TooStrong" : Str), ("Rejected" : Str), false), (("TooStrong" : Str), ("TooLong" : Str), false), (("TooStrong" : Str), ("TooManyEdits" : Str), false), (("TooStrong" : Str), ("TooStrong" : Str), true), (("Rejected" : Str), ("BadBatch" : Str), false), (("Rejected" : Str), ("BadForce" : Str), false), (("Rejected" : Str), ("BadLetter" : Str), false), (("Rejected" : Str), ("BadNumber" : Str), false), (("Rejected" : Str), ("BadOrder" : Str), false), (("Rejected" : Str), ("BadSheet" : Str), false), (("Rejected" : Str), ("BadSheets" : Str), false), (("Rejected" : Str), ("BadText" : Str), false), (("Rejected" : Str), ("BadWord" : Str), false), (("Rejected" : Str), ("Busy" : Str), false), (("Rejected" : Str), ("LastSheet" : Str), false), (("Rejected" : Str), ("NoIndex" : Str), false), (("Rejected" : Str), ("NoPlace" : Str), false), (("Rejected" : Str), ("NoSheet" : Str), false), (("Rejected" : Str), ("NoVersion" : Str), false), (("Rejected" : Str), ("NoWords" : Str), false), (("Rejected" : Str), ("NothingToUndo" : Str), false), (("Rejected" : Str), ("PadError" : Str), true), (("Rejected" : Str), ("Rejected" : Str), true), (("Rejected" : Str), ("TooLong" : Str), false), (("Rejected" : Str), ("TooManyEdits" : Str), false), (("Rejected" : Str), ("TooStrong" : Str), false), (("BadText" : Str), ("BadBatch" : Str), false), (("BadText" : Str), ("BadForce" : Str), false), (("BadText" : Str), ("BadLetter" : Str), false), (("BadText" : Str), ("BadNumber" : Str), false), (("BadText" : Str), ("BadOrder" : Str), false), (("BadText" : Str), ("BadSheet" : Str), false), (("BadText" : Str), ("BadSheets" : Str), false), (("BadText" : Str), ("BadText" : Str), true), (("BadText" : Str), ("BadWord" : Str), false), (("BadText" : Str), ("Busy" : Str), false), (("BadText" : Str), ("LastSheet" : Str), false), (("BadText" : Str), ("NoIndex" : Str), false), (("BadText" : Str), ("NoPlace" : Str), false), (("BadText" : Str), ("NoSheet" : Str), false), (("BadText" : Str), ("NoVersion" : Str), false), (("BadText" : Str), ("NoWords" : Str), false), (("BadText" : Str), ("NothingToUndo" : Str), false), (("BadText" : Str), ("PadError" : Str), true), (("BadText" : Str), ("Rejected" : Str), false), (("BadText" : Str), ("TooLong" : Str), false), (("BadText" : Str), ("TooManyEdits" : Str), false), (("BadText" : Str), ("TooStrong" : Str), false), (("NoWords" : Str), ("BadBatch" : Str), false), (("NoWords" : Str), ("BadForce" : Str), false), (("NoWords" : Str), ("BadLetter" : Str), false), (("NoWords" : Str), ("BadNumber" : Str), false), (("NoWords" : Str), ("BadOrder" : Str), false), (("NoWords" : Str), ("BadSheet" : Str), false), (("NoWords" : Str), ("BadSheets" : Str), false), (("NoWords" : Str), ("BadText" : Str), false), (("NoWords" : Str), ("BadWord" : Str), false), (("NoWords" : Str), ("Busy" : Str), false), (("NoWords" : Str), ("LastSheet" : Str), false), (("NoWords" : Str), ("NoIndex" : Str), false), (("NoWords" : Str), ("NoPlace" : Str), false), (("NoWords" : Str), ("NoSheet" : Str), false), (("NoWords" : Str), ("NoVersion" : Str), false), (("NoWords" : Str), ("NoWords" : Str), true), (("NoWords" : Str), ("NothingToUndo" : Str), false), (("NoWords" : Str), ("PadError" : Str), true), (("NoWords" : Str), ("Rejected" : Str), false), (("NoWords" : Str), ("TooLong" : Str), false), (("NoWords" : Str), ("TooManyEdits" : Str), false), (("NoWords" : Str), ("TooStrong" : Str), false), (("LastSheet" : Str), ("BadBatch" : Str), false), (("LastSheet" : Str), ("BadForce" : Str), false), (("LastSheet" : Str), ("BadLetter" : Str), false), (("LastSheet" : Str), ("BadNumber" : Str), false), (("LastSheet" : Str), ("BadOrder" : Str), false), (("LastSheet" : Str), ("BadSheet" : Str), false), (("LastSheet" : Str), ("BadSheets" : Str), false), (("LastSheet" : Str), ("BadText" : Str), false), (("LastSheet" : Str), ("BadWord" : Str), false), (("LastSheet" : Str), ("Busy" : Str), false), (("LastSheet" : Str), ("LastSheet" : Str), true), (("LastSheet" : Str), ("NoIndex" : Str), false), (("LastSheet" : Str), ("NoPlace" : Str), false), (("LastSheet" : Str), ("NoSheet" : Str), false), (("LastSheet" : Str), ("NoVersion" : Str), false), (("LastSheet" : Str), ("NoWords" : Str), false), (("LastSheet" : Str), ("NothingToUndo" : Str), false), (("LastSheet" : Str), ("PadError" : Str), true), (("LastSheet" : Str), ("Rejected" : Str), false), (("LastSheet" : Str), ("TooLong" : Str), false), (("LastSheet" : Str), ("TooManyEdits" : Str), false), (("LastSheet" : Str), ("TooStrong" : Str), false), (("Busy" : Str), ("BadBatch" : Str), false), (("Busy" : Str), ("BadForce" : Str), false), (("Busy" : Str), ("BadLetter" : Str), false), (("Busy" : Str), ("BadNumber" : Str), false), (("Busy" : Str), ("BadOrder" : Str), false), (("Busy" : Str), ("BadSheet" : Str), false), (("Busy" : Str), ("BadSheets" : Str), false), (("Busy" : Str), ("BadText" : Str), false), (("Busy" : Str), ("BadWord" : Str), false), (("Busy" : Str), ("Busy" : Str), true), (("Busy" : Str), ("LastSheet" : Str), false), (("Busy" : Str), ("NoIndex" : Str), false), (("Busy" : Str), ("NoPlace" : Str), false), (("Busy" : Str), ("NoSheet" : Str), false), (("Busy" : Str), ("NoVersion" : Str), false), (("Busy" : Str), ("NoWords" : Str), false), (("Busy" : Str), ("NothingToUndo" : Str), false), (("Busy" : Str), ("PadError" : Str), true), (("Busy" : Str), ("Rejected" : Str), false), (("Busy" : Str), ("TooLong" : Str), false), (("Busy" : Str), ("TooManyEdits" : Str), false), (("Busy" : Str), ("TooStrong" : Str), false), (("TooManyEdits" : Str), ("BadBatch" : Str), false), (("TooManyEdits" : Str), ("BadForce" : Str), false), (("TooManyEdits" : Str), ("BadLetter" : Str), false), (("TooManyEdits" : Str), ("BadNumber" : Str), false), (("TooManyEdits" : Str), ("BadOrder" : Str), false), (("TooManyEdits" : Str), ("BadSheet" : Str), false), (("TooManyEdits" : Str), ("BadSheets" : Str), false), (("TooManyEdits" : Str), ("BadText" : Str), false), (("TooManyEdits" : Str), ("BadWord" : Str), false), (("TooManyEdits" : Str), ("Busy" : Str), false), (("TooManyEdits" : Str), ("LastSheet" : Str), false), (("TooManyEdits" : Str), ("NoIndex" : Str), false), (("TooManyEdits" : Str), ("NoPlace" : Str), false), (("TooManyEdits" : Str), ("NoSheet" : Str), false), (("TooManyEdits" : Str), ("NoVersion" : Str), false), (("TooManyEdits" : Str), ("NoWords" : Str), false), (("TooManyEdits" : Str), ("NothingToUndo" : Str), false), (("TooManyEdits" : Str), ("PadError" : Str), true), (("TooManyEdits" : Str), ("Rejected" : Str), false), (("TooManyEdits" : Str), ("TooLong" : Str), false), (("TooManyEdits" : Str), ("TooManyEdits" : Str), true), (("TooManyEdits" : Str), ("TooStrong" : Str), false), (("NothingToUndo" : Str), ("BadBatch" : Str), false), (("NothingToUndo" : Str), ("BadForce" : Str), false), (("NothingToUndo" : Str), ("BadLetter" : Str), false), (("NothingToUndo" : Str), ("BadNumber" : Str), false), (("NothingToUndo" : Str), ("BadOrder" : Str), false), (("NothingToUndo" : Str), ("BadSheet" : Str), false), (("NothingToUndo" : Str), ("BadSheets" : Str), false), (("NothingToUndo" : Str), ("BadText" : Str), false), (("NothingToUndo" : Str), ("BadWord" : Str), false), (("NothingToUndo" : Str), ("Busy" : Str), false), (("NothingToUndo" : Str), ("LastSheet" : Str), false), (("NothingToUndo" : Str), ("NoIndex" : Str), false), (("NothingToUndo" : Str), ("NoPlace" : Str), false), (("NothingToUndo" : Str), ("NoSheet" : Str), false), (("NothingToUndo" : Str), ("NoVersion" : Str), false), (("NothingToUndo" : Str), ("NoWords" : Str), false), (("NothingToUndo" : Str), ("NothingToUndo" : Str), true), (("NothingToUndo" : Str), ("PadError" : Str), true), (("NothingToUndo" : Str), ("Rejected" : Str), false), (("NothingToUndo" : Str), ("TooLong" : Str), false), (("NothingToUndo" : Str), ("TooManyEdits" : Str), false), (("NothingToUndo" : Str), ("TooStrong" : Str), false), (("BadBatch" : Str), ("BadBatch" : Str), true), (("BadBatch" : Str), ("BadForce" : Str), false), (("BadBatch" : Str), ("BadLetter" : Str), false), (("BadBatch" : Str), ("BadNumber" : Str), false), (("BadBatch" : Str), ("BadOrder" : Str), false), (("BadBatch" : Str), ("BadSheet" : Str), false), (("BadBatch" : Str), ("BadSheets" : Str), false), (("BadBatch" : Str), ("BadText" : Str), false), (("BadBatch" : Str), ("BadWord" : Str), false), (("BadBatch" : Str), ("Busy" : Str), false), (("BadBatch" : Str), ("LastSheet" : Str), false), (("BadBatch" : Str), ("NoIndex" : Str), false), (("BadBatch" : Str), ("NoPlace" : Str), false), (("BadBatch" : Str), ("NoSheet" : Str), false), (("BadBatch" : Str), ("NoVersion" : Str), false), (("BadBatch" : Str), ("NoWords" : Str), false), (("BadBatch" : Str), ("NothingToUndo" : Str), false), (("BadBatch" : Str), ("PadError" : Str), true), (("BadBatch" : Str), ("Rejected" : Str), false), (("BadBatch" : Str), ("TooLong" : Str), false), (("BadBatch" : Str), ("TooManyEdits" : Str), false), (("BadBatch" : Str), ("TooStrong" : Str), false), (("NoSheet" : Str), ("BadBatch" : Str), false), (("NoSheet" : Str), ("BadForce" : Str), false), (("NoSheet" : Str), ("BadLetter" : Str), false), (("NoSheet" : Str), ("BadNumber" : Str), false), (("NoSheet" : Str), ("BadOrder" : Str), false), (("NoSheet" : Str), ("BadSheet" : Str), false), (("NoSheet" : Str), ("BadSheets" : Str), false), (("NoSheet" : Str), ("BadText" : Str), false), (("NoSheet" : Str), ("BadWord" : Str), false), (("NoSheet" : Str), ("Busy" : Str), false), (("NoSheet" : Str), ("LastSheet" : Str), false), (("NoSheet" : Str), ("NoIndex" : Str), false), (("NoSheet" : Str), ("NoPlace" : Str), false), (("NoSheet" : Str), ("NoSheet" : Str), true), (("NoSheet" : Str), ("NoVersion" : Str), false), (("NoSheet" : Str), ("NoWords" : Str), false), (("NoSheet" : Str), ("NothingToUndo" : Str), false), (("NoSheet" : Str), ("PadError" : Str), false), (("NoSheet" : Str), ("Rejected" : Str), false), (("NoSheet" : Str), ("TooLong" : Str), false), (("NoSheet" : Str), ("TooManyEdits" : Str), false), (("NoSheet" : Str), ("TooStrong" : Str), false), (("NoPlace" : Str), ("BadBatch" : Str), false), (("NoPlace" : Str), ("BadForce" : Str), false), (("NoPlace" : Str), ("BadLetter" : Str), false), (("NoPlace" : Str), ("BadNumber" : Str), false), (("NoPlace" : Str), ("BadOrder" : Str), false), (("NoPlace" : Str), ("BadSheet" : Str), false), (("NoPlace" : Str), ("BadSheets" : Str), false), (("NoPlace" : Str), ("BadText" : Str), false), (("NoPlace" : Str), ("BadWord" : Str), false), (("NoPlace" : Str), ("Busy" : Str), false), (("NoPlace" : Str), ("LastSheet" : Str), false), (("NoPlace" : Str), ("NoIndex" : Str), false), (("NoPlace" : Str), ("NoPlace" : Str), true), (("NoPlace" : Str), ("NoSheet" : Str), false), (("NoPlace" : Str), ("NoVersion" : Str), false), (("NoPlace" : Str), ("NoWords" : Str), false), (("NoPlace" : Str), ("NothingToUndo" : Str), false), (("NoPlace" : Str), ("PadError" : Str), false), (("NoPlace" : Str), ("Rejected" : Str), false), (("NoPlace" : Str), ("TooLong" : Str), false), (("NoPlace" : Str), ("TooManyEdits" : Str), false), (("NoPlace" : Str), ("TooStrong" : Str), false), (("NoIndex" : Str), ("BadBatch" : Str), false), (("NoIndex" : Str), ("BadForce" : Str), false), (("NoIndex" : Str), ("BadLetter" : Str), false), (("NoIndex" : Str), ("BadNumber" : Str), false), (("NoIndex" : Str), ("BadOrder" : Str), false), (("NoIndex" : Str), ("BadSheet" : Str), false), (("NoIndex" : Str), ("BadSheets" : Str), false), (("NoIndex" : Str), ("BadText" : Str), false), (("NoIndex" : Str), ("BadWord" : Str), false), (("NoIndex" : Str), ("Busy" : Str), false), (("NoIndex" : Str), ("LastSheet" : Str), false), (("NoIndex" : Str), ("NoIndex" : Str), true), (("NoIndex" : Str), ("NoPlace" : Str), false), (("NoIndex" : Str), ("NoSheet" : Str), false), (("NoIndex" : Str), ("NoVersion" : Str), false), (("NoIndex" : Str), ("NoWords" : Str), false), (("NoIndex" : Str), ("NothingToUndo" : Str), false), (("NoIndex" : Str), ("PadError" : Str), false), (("NoIndex" : Str), ("Rejected" : Str), false), (("NoIndex" : Str), ("TooLong" : Str), false), (("NoIndex" : Str), ("TooManyEdits" : Str), false), (("NoIndex" : Str), ("TooStrong" : Str), false), (("NoVersion" : Str), ("BadBatch" : Str), false), (("NoVersion" : Str), ("BadForce" : Str), false), (("NoVersion" : Str), ("BadLetter" : Str), false), (("NoVersion" : Str), ("BadNumber" : Str), false), (("NoVersion" : Str), ("BadOrder" : Str), false), (("NoVersion" : Str), ("BadSheet" : Str), false), (("NoVersion" : Str), ("BadSheets" : Str), false), (("NoVersion" : Str), ("BadText" : Str), false), (("NoVersion" : Str), ("BadWord" : Str), false), (("NoVersion" : Str), ("Busy" : Str), false), (("NoVersion" : Str), ("LastSheet" : Str), false), (("NoVersion" : Str), ("NoIndex" : Str), false), (("NoVersion" : Str), ("NoPlace" : Str), false), (("NoVersion" : Str), ("NoSheet" : Str), false), (("NoVersion" : Str), ("NoVersion" : Str), true), (("NoVersion" : Str), ("NoWords" : Str), false), (("NoVersion" : Str), ("NothingToUndo" : Str), false), (("NoVersion" : Str), ("PadError" : Str), false), (("NoVersion" : Str), ("Rejected" : Str), false), (("NoVersion" : Str), ("TooLong" : Str), false), (("NoVersion" : Str), ("TooManyEdits" : Str), false), (("NoVersion" : Str), ("TooStrong" : Str), false)], [(("BadNumber" : Str), ("LookupError" : String), false), (("BadNumber" : Str), ("ValueError" : String), true), (("BadOrder" : Str), ("LookupError" : String), false), (("BadOrder" : Str), ("ValueError" : String), true), (("BadWord" : Str), ("LookupError" : String), false), (("BadWord" : Str), ("ValueError" : String), true), (("TooLong" : Str), ("LookupError" : String), false), (("TooLong" : Str), ("ValueError" : String), true), (("BadSheet" : Str), ("LookupError" : String), false), (("BadSheet" : Str), ("ValueError" : String), true), (("BadSheets" : Str), ("LookupError" : String), false), (("BadSheets" : Str), ("ValueError" : String), true), (("BadLetter" : Str), ("LookupError" : String), false), (("BadLetter" : Str), ("ValueError" : String), true), (("BadForce" : Str), ("LookupError" : String), false), (("BadForce" : Str), ("ValueError" : String), true), (("TooStrong" : Str), ("LookupError" : String), false), (("TooStrong" : Str), ("ValueError" : String), true), (("Rejected" : Str), ("LookupError" : String), false), (("Rejected" : Str), ("ValueError" : String), true), (("BadText" : Str), ("LookupError" : String), false), (("BadText" : Str), ("ValueError" : String), true), (("NoWords" : Str), ("LookupError" : String), false), (("NoWords" : Str), ("ValueError" : String), true), (("LastSheet" : Str), ("LookupError" : String), false), (("LastSheet" : Str), ("ValueError" : String), true), (("Busy" : Str), ("LookupError" : String), false), (("Busy" : Str), ("ValueError" : String), true), (("TooManyEdits" : Str), ("LookupError" : String), false), (("TooManyEdits" : Str), ("ValueError" : String), true), (("NothingToUndo" : Str), ("LookupError" : String), false), (("NothingToUndo" : Str), ("ValueError" : String), true), (("BadBatch" : Str), ("LookupError" : String), false), (("BadBatch" : Str), ("ValueError" : String), true), (("NoSheet" : Str), ("LookupError" : String), true), (("NoSheet" : Str), ("ValueError" : String), false), (("NoPlace" : Str), ("LookupError" : String), true), (("NoPlace" : Str), ("ValueError" : String), false), (("NoIndex" : Str), ("LookupError" : String), true), (("NoIndex" : Str), ("ValueError" : String), false), (("NoVersion" : Str), ("LookupError" : String), true), (("NoVersion" : Str), ("ValueError" : String), false)]⟩
def b_law_flags_of_6 : TSD :=
  (dRet (dOp rdAdd (dLook 1) (dLst (dCons (dFn (rdIsE tab_law) (dCons (dLook 0) (dCons (dC (.gl "NoSheet")) dNil))) (dCons (dFn (rdIsE tab_law) (dCons (dLook 0) (dCons (dC (.gl "NoPlace")) dNil))) (dCons (dFn (rdIsE tab_law) (dCons (dLook 0) (dCons (dC (.gl "NoIndex")) dNil))) (dCons (dFn (rdIsE tab_law) (dCons (dLook 0) (dCons (dC (.gl "NoVersion")) dNil))) dNil)))))))
def b_law_flags_of_5 : TSD :=
  (dSeq (dSetR 1 (dVal (dOp rdAdd (dLook 1) (dLst (dCons (dFn (rdIsE tab_law) (dCons (dLook 0) (dCons (dC (.gl "TooManyEdits")) dNil))) (dCons (dFn (rdIsE tab_law) (dCons (dLook 0) (dCons (dC (.gl "NothingToUndo")) dNil))) (dCons (dFn (rdIsE tab_law) (dCons (dLook 0) (dCons (dC (.gl "BadBatch")) dNil))) dNil)))))))
  b_law_flags_of_6)
def b_law_flags_of_4 : TSD :=
  (dSeq (dSetR 1 (dVal (dOp rdAdd (dLook 1) (dLst (dCons (dFn (rdIsE tab_law) (dCons (dLook 0) (dCons (dC (.gl "BadText")) dNil))) (dCons (dFn (rdIsE tab_law) (dCons (dLook 0) (dCons (dC (.gl "NoWords")) dNil))) (dCons (dFn (rdIsE tab_law) (dCons (dLook 0) (dCons (dC (.gl "LastSheet")) dNil))) (dCons (dFn (rdIsE tab_law) (dCons (dLook 0) (dCons (dC (.gl "Busy")) dNil))) dNil))))))))
  b_law_flags_of_5)
def b_law_flags_of_3 : TSD :=
  (dSeq (dSetR 1 (dVal (dOp rdAdd (dLook 1) (dLst (dCons (dFn (rdIsE tab_law) (dCons (dLook 0) (dCons (dC (.gl "BadForce")) dNil))) (dCons (dFn (rdIsE tab_law) (dCons (dLook 0) (dCons (dC (.gl "TooStrong")) dNil))) (dCons (dFn (rdIsE tab_law) (dCons (dLook 0) (dCons (dC (.gl "Rejected")) dNil))) dNil)))))))
  b_law_flags_of_4)
def b_law_flags_of_2 : TSD :=
  (dSeq (dSetR 1 (dVal (dOp rdAdd (dLook 1) (dLst (dCons (dFn (rdIsE tab_law) (dCons (dLook 0) (dCons (dC (.gl "BadSheet")) dNil))) (dCons (dFn (rdIsE tab_law) (dCons (dLook 0) (dCons (dC (.gl "BadSheets")) dNil))) (dCons (dFn (rdIsE tab_law) (dCons (dLook 0) (dCons (dC (.gl "BadLetter")) dNil))) dNil)))))))
  b_law_flags_of_3)
/-- _law_flags_of(_law_e); slots 0:_law_e 1:_law_found -/
def b_law_flags_of : TSD :=
  (dSeq (dSetR 1 (dVal (dLst (dCons (dFn (rdIsE tab_law) (dCons (dLook 0) (dCons (dC (.gl "BadNumber")) dNil))) (dCons (dFn (rdIsE tab_law) (dCons (dLook 0) (dCons (dC (.gl "BadOrder")) dNil))) (dCons (dFn (rdIsE tab_law) (dCons (dLook 0) (dCons (dC (.gl "BadWord")) dNil))) (dCons (dFn (rdIsE tab_law) (dCons (dLook 0) (dCons (dC (.gl "TooLong")) dNil))) dNil)))))))
  b_law_flags_of_2)
def b_law_errors_4 : TSD :=
  (dRet (dOp rdAdd (dLook 1) (dLst (dCons (dMkE (dMkF "NoPlace" "value" (dCons (dVar 0) dNil))) (dCons (dMkE (dMkF "NoIndex" "index" (dCons (dVar 0) dNil))) (dCons (dMkE (dMkF "NoVersion" "value" (dCons (dVar 0) dNil))) dNil))))))
def b_law_errors_3 : TSD :=
  (dSeq (dSetR 1 (dVal (dOp rdAdd (dLook 1) (dLst (dCons (dMkE (dMk0 "LastSheet")) (dCons (dMkE (dMk0 "Busy")) (dCons (dMkE (dMk0 "TooManyEdits")) (dCons (dMkE (dMk0 "NothingToUndo")) (dCons (dMkE (dMk0 "BadBatch")) (dCons (dMkE (dMkF "NoSheet" "value" (dCons (dVar 0) dNil))) dNil))))))))))
  b_law_errors_4)
def b_law_errors_2 : TSD :=
  (dSeq (dSetR 1 (dVal (dOp rdAdd (dLook 1) (dLst (dCons (dMkE (dMkF "BadLetter" "value" (dCons (dVar 0) dNil))) (dCons (dMkE (dMkF "BadForce" "value" (dCons (dVar 0) dNil))) (dCons (dMkE (dMkF "TooStrong" "limit" (dCons (dVar 0) dNil))) (dCons (dMkE (dMkF "Rejected" "index" (dCons (dVar 0) dNil))) (dCons (dMkE (dMkF "BadText" "index" (dCons (dVar 0) dNil))) (dCons (dMkE (dMk0 "NoWords")) dNil))))))))))
  b_law_errors_3)
/-- _law_errors(_law_value); slots 0:_law_value 1:_law_found -/
def b_law_errors : TSD :=
  (dSeq (dSetR 1 (dVal (dLst (dCons (dMkE (dMkF "BadNumber" "value" (dCons (dVar 0) dNil))) (dCons (dMkE (dMkF "BadOrder" "value" (dCons (dVar 0) dNil))) (dCons (dMkE (dMkF "BadWord" "value" (dCons (dVar 0) dNil))) (dCons (dMkE (dMkF "TooLong" "limit" (dCons (dVar 0) dNil))) (dCons (dMkE (dMkF "BadSheet" "index" (dCons (dVar 0) dNil))) (dCons (dMkE (dMkF "BadSheets" "error" (dCons (dVar 0) dNil))) dNil)))))))))
  b_law_errors_2)
def b_law_fields_4 : TSD :=
  (dRet (dOp rdAdd (dLook 1) (dLst (dCons (dFldE ["NoPlace"] "value" (dMkE (dMkF "NoPlace" "value" (dCons (dVar 0) dNil)))) (dCons (dFldE ["NoIndex"] "index" (dMkE (dMkF "NoIndex" "index" (dCons (dVar 0) dNil)))) (dCons (dFldE ["NoVersion"] "value" (dMkE (dMkF "NoVersion" "value" (dCons (dVar 0) dNil)))) dNil))))))
def b_law_fields_3 : TSD :=
  (dSeq (dSetR 1 (dVal (dOp rdAdd (dLook 1) (dLst (dCons (dFldE ["TooStrong"] "limit" (dMkE (dMkF "TooStrong" "limit" (dCons (dVar 0) dNil)))) (dCons (dFldE ["Rejected"] "index" (dMkE (dMkF "Rejected" "index" (dCons (dVar 0) dNil)))) (dCons (dFldE ["BadText"] "index" (dMkE (dMkF "BadText" "index" (dCons (dVar 0) dNil)))) (dCons (dFldE ["NoSheet"] "value" (dMkE (dMkF "NoSheet" "value" (dCons (dVar 0) dNil)))) dNil))))))))
  b_law_fields_4)
def b_law_fields_2 : TSD :=
  (dSeq (dSetR 1 (dVal (dOp rdAdd (dLook 1) (dLst (dCons (dFldE ["BadSheet"] "index" (dMkE (dMkF "BadSheet" "index" (dCons (dVar 0) dNil)))) (dCons (dFldE ["BadSheets"] "error" (dMkE (dMkF "BadSheets" "error" (dCons (dVar 0) dNil)))) (dCons (dFldE ["BadLetter"] "value" (dMkE (dMkF "BadLetter" "value" (dCons (dVar 0) dNil)))) (dCons (dFldE ["BadForce"] "value" (dMkE (dMkF "BadForce" "value" (dCons (dVar 0) dNil)))) dNil))))))))
  b_law_fields_3)
/-- _law_fields(_law_value); slots 0:_law_value 1:_law_found -/
def b_law_fields : TSD :=
  (dSeq (dSetR 1 (dVal (dLst (dCons (dFldE ["BadNumber"] "value" (dMkE (dMkF "BadNumber" "value" (dCons (dVar 0) dNil)))) (dCons (dFldE ["BadOrder"] "value" (dMkE (dMkF "BadOrder" "value" (dCons (dVar 0) dNil)))) (dCons (dFldE ["BadWord"] "value" (dMkE (dMkF "BadWord" "value" (dCons (dVar 0) dNil)))) (dCons (dFldE ["TooLong"] "limit" (dMkE (dMkF "TooLong" "limit" (dCons (dVar 0) dNil)))) dNil)))))))
  b_law_fields_2)
def b_law_2l_3l_3 : TSD :=
  (dIfS (dOr (dB (dOp rdNe (dCall sp_law_flags_of (dCons (dOp rdIx (dLook 4) (dLook 5)) dNil) noD) (dF (dLc [8] (dRng1 (dCons (dC (.int 21)) dNil)) (dName 8) dYes (dOp rdEq (dLook 8) (dLook 5)))))) (dB (dOp rdNe (dLook 6) (dLst (dCons (dOp rdLt (dLook 5) (dC (.int 17))) (dCons (dOp rdLt (dLook 5) (dC (.int 17))) (dCons (dOp rdGt (dLook 5) (dC (.int 16))) dNil)))))))
  (dRet (dC (.bl false)))
  dNext)
def b_law_2l_3l_2 : TSD :=
  (dSeq (dApp 6 (dFn (rdIsE tab_law) (dCons (dOp rdIx (dLook 4) (dLook 5)) (dCons (dC (.ty "LookupError")) dNil))))
  b_law_2l_3l_3)
def b_law_2l_3l : TSD :=
  (dSeq (dSetR 6 (dOwn (dLstF (dCons (dFn (rdIsE tab_law) (dCons (dOp rdIx (dLook 4) (dLook 5)) (dCons (dC (.gl "PadError")) dNil))) (dCons (dFn (rdIsE tab_law) (dCons (dOp rdIx (dLook 4) (dLook 5)) (dCons (dC (.ty "ValueError")) dNil))) dNil)))))
  b_law_2l_3l_2)
def b_law_2l_4 : TSD :=
  (dIfS (dB (dOp rdNeNil (dF (dLc [9] (dEach (dCall sp_law_fields (dCons (dVar 3) dNil) noD)) (dName 9) (dNot (dB (dCall sp_lawA_same (dCons (dVar 9) (dCons (dVar 3) dNil)) noD))) (dVar 9))) (dLst dNil)))
  (dRet (dC (.bl false)))
  dNext)
def b_law_2l_3 : TSD :=
  (dSeq (dFor (dRng1 (dCons (dC (.int 21)) dNil)) (dName 5)
  b_law_2l_3l)
  b_law_2l_4)
def b_law_2l_2 : TSD :=
  (dSeq (dSetR 4 (dVal (dCall sp_law_errors (dCons (dVar 3) dNil) noD)))
  b_law_2l_3)
def b_law_2l : TSD :=
  (dSeq (dSetR 3 (dVal (dCall sp_lawA_odd (dCons (dVar 1) dNil) noD)))
  b_law_2l_2)
def b_law_4 : TSD :=
  (dRet (dCall sp_lawA_same (dCons (dVar 7) (dCons (dLst (dCons (dC (.int 30)) (dCons (dC (.int 8)) (dCons (dC (.int 12)) (dCons (dOp rdPow (dC (.int 10)) (dC (.int 12))) (dCons (dC (.int 20)) (dCons (dC (.int 20)) dNil))))))) dNil)) noD))
def b_law_3 : TSD :=
  (dSeq (dSetR 7 (dVal (dLst (dCons (dC (.int 30)) (dCons (dC (.int 8)) (dCons (dC (.int 12)) (dCons (dC (.int 1000000000000)) (dCons (dC (.int 20)) (dCons (dC (.int 20)) dNil)))))))))
  b_law_4)
def b_law_2 : TSD :=
  (dSeq (dFor (dRng1 (dCons (dC (.int 4)) dNil)) (dName 2)
  b_law_2l)
  b_law_3)
/-- law(_law_script); slots 0:_law_script 1:_law_deck_here 2:_law_turn 3:_law_value 4:_law_errors_here 5:_law_k 6:_law_bases 7:_law_found 8:_law_j 9:_law_field -/
def b_law : TSD :=
  (dSeq (dSetR 1 (dVal (dCall sp_law_deck (dCons (dVar 0) dNil) noD)))
  b_law_2)
theorem len_law : ∀ ds μ Q E, sp_law ds μ Q E → ds.length = 1 := by
  rintro ds μ Q E ⟨ns, rfl, _⟩; rfl
theorem tab_get : ∀ c ∈ cls04, ∀ q ∈ cls04, tab_law.get c q = some (decide (c = q)) := by decide +kernel
theorem len_law_errors : ∀ ds μ Q E, sp_law_errors ds μ Q E → ds.length = 1 := by
  rintro ds μ Q E ⟨v, rfl, _⟩; rfl
theorem ok_law_errors : ∀ ds μ Q E, sp_law_errors ds μ Q E → b_law_errors { nx := fun _ μ' => Q .non μ', rt := Q } (startD 2 ds) μ := by
  rintro ds μ Q E ⟨v, rfl, q⟩
  unfold b_law_errors
  rw [dSeq]
  simp [-dSeq]
  unfold b_law_errors_2
  rw [dSeq]
  simp [-dSeq]
  unfold b_law_errors_3
  rw [dSeq]
  simp [-dSeq]
  unfold b_law_errors_4
  simp
  exact q
theorem len_law_fields : ∀ ds μ Q E, sp_law_fields ds μ Q E → ds.length = 1 := by
  rintro ds μ Q E ⟨v, rfl, _⟩; rfl
theorem ok_law_fields : ∀ ds μ Q E, sp_law_fields ds μ Q E → b_law_fields { nx := fun _ μ' => Q .non μ', rt := Q } (startD 2 ds) μ := by
  rintro ds μ Q E ⟨v, rfl, q⟩
  unfold b_law_fields
  rw [dSeq]
  simp [-dSeq]
  unfold b_law_fields_2
  rw [dSeq]
  simp [-dSeq]
  unfold b_law_fields_3
  rw [dSeq]
  simp [-dSeq]
  unfold b_law_fields_4
  simp
  exact q
theorem len_law_flags_of : ∀ ds μ Q E, sp_law_flags_of ds μ Q E → ds.length = 1 := by
  rintro ds μ Q E ⟨c, fs, rfl, _⟩; rfl
theorem ok_law_flags_of : ∀ ds μ Q E, sp_law_flags_of ds μ Q E → b_law_flags_of { nx := fun _ μ' => Q .non μ', rt := Q } (startD 2 ds) μ := by
  rintro ds μ Q E ⟨c, fs, rfl, hc, q⟩
  obtain ⟨b0, t0, e0⟩ : ∃ b, tab_law.get c "BadNumber" = some b ∧ b = decide (c = "BadNumber") := ⟨_, tab_get c hc "BadNumber" (by decide +kernel), rfl⟩
  obtain ⟨b1, t1, e1⟩ : ∃ b, tab_law.get c "BadOrder" = some b ∧ b = decide (c = "BadOrder") := ⟨_, tab_get c hc "BadOrder" (by decide +kernel), rfl⟩
  obtain ⟨b2, t2, e2⟩ : ∃ b, tab_law.get c "BadWord" = some b ∧ b = decide (c = "BadWord") := ⟨_, tab_get c hc "BadWord" (by decide +kernel), rfl⟩
  obtain ⟨b3, t3, e3⟩ : ∃ b, tab_law.get c "TooLong" = some b ∧ b = decide (c = "TooLong") := ⟨_, tab_get c hc "TooLong" (by decide +kernel), rfl⟩
  obtain ⟨b4, t4, e4⟩ : ∃ b, tab_law.get c "BadSheet" = some b ∧ b = decide (c = "BadSheet") := ⟨_, tab_get c hc "BadSheet" (by decide +kernel), rfl⟩
  obtain ⟨b5, t5, e5⟩ : ∃ b, tab_law.get c "BadSheets" = some b ∧ b = decide (c = "BadSheets") := ⟨_, tab_get c hc "BadSheets" (by decide +kernel), rfl⟩
  obtain ⟨b6, t6, e6⟩ : ∃ b, tab_law.get c "BadLetter" = some b ∧ b = decide (c = "BadLetter") := ⟨_, tab_get c hc "BadLetter" (by decide +kernel), rfl⟩
  obtain ⟨b7, t7, e7⟩ : ∃ b, tab_law.get c "BadForce" = some b ∧ b = decide (c = "BadForce") := ⟨_, tab_get c hc "BadForce" (by decide +kernel), rfl⟩
  obtain ⟨b8, t8, e8⟩ : ∃ b, tab_law.get c "TooStrong" = some b ∧ b = decide (c = "TooStrong") := ⟨_, tab_get c hc "TooStrong" (by decide +kernel), rfl⟩
  obtain ⟨b9, t9, e9⟩ : ∃ b, tab_law.get c "Rejected" = some b ∧ b = decide (c = "Rejected") := ⟨_, tab_get c hc "Rejected" (by decide +kernel), rfl⟩
  obtain ⟨b10, t10, e10⟩ : ∃ b, tab_law.get c "BadText" = some b ∧ b = decide (c = "BadText") := ⟨_, tab_get c hc "BadText" (by decide +kernel), rfl⟩
  obtain ⟨b11, t11, e11⟩ : ∃ b, tab_law.get c "NoWords" = some b ∧ b = decide (c = "NoWords") := ⟨_, tab_get c hc "NoWords" (by decide +kernel), rfl⟩
  obtain ⟨b12, t12, e12⟩ : ∃ b, tab_law.get c "LastSheet" = some b ∧ b = decide (c = "LastSheet") := ⟨_, tab_get c hc "LastSheet" (by decide +kernel), rfl⟩
  obtain ⟨b13, t13, e13⟩ : ∃ b, tab_law.get c "Busy" = some b ∧ b = decide (c = "Busy") := ⟨_, tab_get c hc "Busy" (by decide +kernel), rfl⟩
  obtain ⟨b14, t14, e14⟩ : ∃ b, tab_law.get c "TooManyEdits" = some b ∧ b = decide (c = "TooManyEdits") := ⟨_, tab_get c hc "TooManyEdits" (by decide +kernel), rfl⟩
  obtain ⟨b15, t15, e15⟩ : ∃ b, tab_law.get c "NothingToUndo" = some b ∧ b = decide (c = "NothingToUndo") := ⟨_, tab_get c hc "NothingToUndo" (by decide +kernel), rfl⟩
  obtain ⟨b16, t16, e16⟩ : ∃ b, tab_law.get c "BadBatch" = some b ∧ b = decide (c = "BadBatch") := ⟨_, tab_get c hc "BadBatch" (by decide +kernel), rfl⟩
  obtain ⟨b17, t17, e17⟩ : ∃ b, tab_law.get c "NoSheet" = some b ∧ b = decide (c = "NoSheet") := ⟨_, tab_get c hc "NoSheet" (by decide +kernel), rfl⟩
  obtain ⟨b18, t18, e18⟩ : ∃ b, tab_law.get c "NoPlace" = some b ∧ b = decide (c = "NoPlace") := ⟨_, tab_get c hc "NoPlace" (by decide +kernel), rfl⟩
  obtain ⟨b19, t19, e19⟩ : ∃ b, tab_law.get c "NoIndex" = some b ∧ b = decide (c = "NoIndex") := ⟨_, tab_get c hc "NoIndex" (by decide +kernel), rfl⟩
  obtain ⟨b20, t20, e20⟩ : ∃ b, tab_law.get c "NoVersion" = some b ∧ b = decide (c = "NoVersion") := ⟨_, tab_get c hc "NoVersion" (by decide +kernel), rfl⟩
  have q : Q (.lst [.bl b0, .bl b1, .bl b2, .bl b3, .bl b4, .bl b5, .bl b6, .bl b7, .bl b8, .bl b9, .bl b10, .bl b11, .bl b12, .bl b13, .bl b14, .bl b15, .bl b16, .bl b17, .bl b18, .bl b19, .bl b20]) μ := by
    subst e0 e1 e2 e3 e4 e5 e6 e7 e8 e9 e10 e11 e12 e13 e14 e15 e16 e17 e18 e19 e20
    exact q
  clear e0 e1 e2 e3 e4 e5 e6 e7 e8 e9 e10 e11 e12 e13 e14 e15 e16 e17 e18 e19 e20
  unfold b_law_flags_of
  rw [dSeq]
  simp [-dSeq, t0, t1, t2, t3]
  unfold b_law_flags_of_2
  rw [dSeq]
  simp [-dSeq, t4, t5, t6]
  unfold b_law_flags_of_3
  rw [dSeq]
  simp [-dSeq, t7, t8, t9]
  unfold b_law_flags_of_4
  rw [dSeq]
  simp [-dSeq, t10, t11, t12, t13]
  unfold b_law_flags_of_5
  rw [dSeq]
  simp [-dSeq, t14, t15, t16]
  unfold b_law_flags_of_6
  simp [t17, t18, t19, t20]
  exact q
theorem at04 (v : D) : ∀ k : Nat, k < 21 → ∃ c fs, atI (errs04 v) (k : Int) = some (.exn c fs) ∧ c ∈ cls04 ∧ tab_law.get c "PadError" = some (decide (k < 17)) ∧ tab_law.getT c "ValueError" = some (decide (k < 17)) ∧ tab_law.getT c "LookupError" = some (decide (16 < k)) ∧
    flags04 c = (List.range 21).map (fun j => D.bl (decide (j = k))) := by
  intro k hk
  have h : ∃ c fs, (errs04 v)[k]? = some (.exn c fs) ∧ cls04[k]? = some c := by
    have : k = 0 ∨ k = 1 ∨ k = 2 ∨ k = 3 ∨ k = 4 ∨ k = 5 ∨ k = 6 ∨ k = 7 ∨ k = 8 ∨ k = 9 ∨ k = 10 ∨ k = 11 ∨ k = 12 ∨ k = 13 ∨ k = 14 ∨ k = 15 ∨ k = 16 ∨ k = 17 ∨ k = 18 ∨ k = 19 ∨ k = 20 := by omega
    rcases this with h | h | h | h | h | h | h | h | h | h | h | h | h | h | h | h | h | h | h | h | h <;> subst h <;> exact ⟨_, _, rfl, rfl⟩
  obtain ⟨c, fs, h1, h2⟩ := h
  have key : ∀ k, k < 21 → tab_law.get (cls04.getD k "") "PadError" = some (decide (k < 17)) ∧ tab_law.getT (cls04.getD k "") "ValueError" = some (decide (k < 17)) ∧ tab_law.getT (cls04.getD k "") "LookupError" = some (decide (16 < k)) ∧
      (cls04.map fun q => decide (cls04.getD k "" = q)) = (List.range 21).map (fun j => decide (j = k)) := by decide +kernel
  have e : cls04.getD k "" = c := by rw [List.getD_eq_getElem?_getD, h2]; rfl
  have kk := key k hk
  rw [e] at kk
  refine ⟨c, fs, ?_, List.mem_of_getElem? h2, kk.1, kk.2.1, kk.2.2.1, ?_⟩
  · rw [atI_nat, h1]
  · have := congrArg (List.map D.bl) kk.2.2.2
    rw [List.map_map, List.map_map] at this
    exact this
theorem ok_law : ∀ ds μ Q E, sp_law ds μ Q E → b_law { nx := fun _ μ' => Q .non μ', rt := Q } (startD 10 ds) μ := by
  rintro ds μ Q E ⟨ns, rfl, hn, q⟩
  unfold b_law
  rw [dSeq]
  simp [-dSeq]
  refine ⟨ns, rfl, hn, fun j c μ1 hJ _ _ _ => ?_⟩
  show b_law_2 _ _ _
  unfold b_law_2
  rw [dSeq]
  simp [rngOk, -dSeq, -forD]
  refine forD_rng (fun i ρ μ' => (∃ x2 x3 x4 x5 x6 : Option DS, ρ = [some (.val (.scr ns)), some (.val (.ref j)), x2, x3, x4, x5, x6, none, none, none]) ∧ Deck j c (1000 * i) μ') ?_ ?_ ⟨⟨none, none, none, none, none, rfl⟩, hJ⟩
  · rintro i ρ μ2 nx hi ⟨⟨x2, x3, x4, x5, x6, rfl⟩, hJ2⟩ hnx
    simp [-dSeq]
    unfold b_law_2l
    rw [dSeq]
    simp [-dSeq]
    refine odd_ok (μ0 := μ2) ⟨hJ2, .refl⟩ (by omega) fun v μ3 hv s3 => ?_
    have rv : repOkO v := ((oddA_vl v hv).mono (B' := 10) (w' := 12) (k' := 1) (by omega) (by omega) (by omega)).shx.rep (by omega) (by omega)
    show b_law_2l_2 _ _ _
    unfold b_law_2l_2
    rw [dSeq]
    simp [-dSeq]
    refine ⟨v, rfl, ?_⟩
    show b_law_2l_3 _ _ _
    unfold b_law_2l_3
    rw [dSeq]
    simp [rngOk, -dSeq, -forD]
    have AT := at04 v
    generalize errs04 v = EL at AT
    refine forD_rng (fun k ρ μ' => (∃ x5 x6 : Option DS, ρ = [some (.val (.scr ns)), some (.val (.ref j)), some (.val (.int i)), some (.val v), some (.val (.lst EL)), x5, x6, none, none, none]) ∧ μ' = μ3) ?_ ?_ ⟨⟨_, _, rfl⟩, rfl⟩
    · rintro k ρ μ' nn hk ⟨⟨x5, x6, rfl⟩, rfl⟩ hnn
      obtain ⟨c', fs, a1, hc, p1, p2, p3, fl⟩ := AT k (by omega)
      simp only [dName, List.set]
      unfold b_law_2l_3l
      rw [dSeq]
      simp [-dSeq, a1, p1, p2]
      unfold b_law_2l_3l_2
      rw [dSeq]
      simp [-dSeq, a1, p3]
      unfold b_law_2l_3l_3
      simp [a1, rngOk, -lcD]
      refine ⟨c', fs, rfl, hc, ?_⟩
      dsimp only
      rw [fl, show rngD 0 21 = (List.range 21).map (fun j : Nat => D.int j) from by unfold rngD; simp]
      refine lcD_list (inv := still) (List.range 21) (fun j : Nat => D.int j) (fun j => .bl (decide (j = k))) trivial (by show _ ≤ 16777216; rw [List.length_range]; omega) (fun a ha r hr => ?_) ?_
      · simp
        rw [show decide ((a : Int) = (k : Int)) = decide (a = k) from by rw [decide_eq_decide]; omega]
        exact hr
      · have I1 : (D.lst ((List.range 21).map fun j => D.bl (decide (j = k)))).ic := by
          simp [List.range, List.range.loop, D.ic, D.ics]
        have D1 : (D.lst ((List.range 21).map fun j => D.bl (decide (j = k)))).dp ≤ 50 := by
          simp [List.range, List.range.loop, D.dp, D.dps]
        have e1 : ((k : Int) < 17) = (k < 17) := by rw [eq_iff_iff]; omega
        have e2 : ((16 : Int) < k) = (16 < k) := by rw [eq_iff_iff]; omega
        simp only [e1, e2]
        refine ⟨okEq_of I1 I1 D1 D1, ?_⟩
        rw [if_pos (eqv_same I1)]
        refine ⟨okEq_of (by simp [D.ic, D.ics]) (by simp [D.ic, D.ics]) (by simp [D.dp, D.dps]) (by simp [D.dp, D.dps]), ?_⟩
        rw [if_neg (by simp)]
        exact hnn _ _ ⟨⟨_, _, rfl⟩, rfl⟩
    · rintro ρ μ' ⟨⟨x5, x6, rfl⟩, rfl⟩
      unfold b_law_2l_4
      simp [-lcD]
      refine ⟨v, rfl, ?_⟩
      dsimp only
      rw [show List.replicate 15 v = (List.replicate 15 v).map (fun x => x) by simp]
      refine lcD_listF (inv := still) (List.replicate 15 v) (fun _ => false) (fun x => x) (fun x => x) trivial (by show _ ≤ 16777216; simp) (fun a ha k n hk hn2 => ?_) ?_
      · obtain ⟨_, rfl⟩ := List.mem_replicate.mp ha
        simp
        exact ⟨_, _, rfl, rfl, rv, hn2 rfl⟩
      · rw [List.filter_eq_nil_iff.mpr (fun _ _ => by simp), List.map_nil, if_pos rfl]
        exact hnx _ _ ⟨⟨_, _, _, _, _, rfl⟩, s3.1.le (by omega)⟩
  · rintro ρ μ2 ⟨⟨x2, x3, x4, x5, x6, rfl⟩, hJ2⟩
    dsimp only
    unfold b_law_3
    rw [dSeq]
    simp [-dSeq]
    unfold b_law_4
    simp
    exact ⟨⟨by decide, by decide, by decide⟩, _, _, rfl, rfl, (shx_dec (t := 700) (k := 1) (by decide +kernel)).rep (by omega) (by omega), q _⟩
end DL

namespace DL
open PySem PySem.Spec PyProof.Rows L2
/-- the heap that shows the script alone, where the module does not own it -/
def Hscr (K : PySem.W.Frag) (a : Addr) (o : Obj) (xs : List V) : Hp := fun b => if b = a ∧ K.lookup a = none then some (.frz o (.lst xs)) else none
theorem Hscr_some {K : PySem.W.Frag} {a b : Addr} {o : Obj} {xs : List V} {u : HO} (h : Hscr K a o xs b = some u) : b = a ∧ K.lookup a = none ∧ u = .frz o (.lst xs) := by
  unfold Hscr at h
  split at h
  · rename_i c
    exact ⟨c.1, c.2, (Option.some.inj h).symm⟩
  · cases h
theorem Hscr_none {K : PySem.W.Frag} {a b : Addr} {o : Obj} {xs : List V} (h : ¬ (b = a ∧ K.lookup a = none)) : Hscr K a o xs b = none := if_neg h
theorem end_g {l : PySem.W.OpenLaw} {n k : Nat} {q : Program} {loose : List Str} {XP : (Str → Option Value) → Heap → Prop} {YP : World → Heap → Prop} {d : DefRec} {K : Params → PySem.W.Frag} {S : DSp} {x : Str}
    (hn : l.most = some n) (hn2 : n ≤ sizeLine) (hdf : d.params.defaults = []) (hr : Room k callerA) (hY : ∀ (w : World) (h : Heap), YP w h → (K w.params).In h)
    (F : ∀ (w : World) (mg : Str → Option Value) (fa : Addr) (h : Heap), (K w.params).In h → h.Ns mainGlobals mg → mg d.name = some (.ref fa) →
      ∃ fd : FuncData, (∀ (s : Shared) (u : Value), BindsTo s fd ⟨[u], []⟩ [(x, u)]) ∧ ∀ base : Heap, (K w.params).In base → base.Ns mainGlobals mg → FnG l.prog w (K w.params) mg base L2.CX0 k fa fd [x] (liftP (K w.params) mg S))
    (hS : ∀ ns : List Int, ns.length ≤ n → S [.scr ns] (fun _ => none) (fun v _ => v = .bl true) noD) : PySem.W.WalkO q loose XP YP l.row.toRowW d [] (fun f vs => PySem.call f vs) := by
  refine Att.attach_call hn hdf ?_
  intro w s0 s1 mg mb fa o pm cd doc a vs ns G Y ho hd hcd hmg hobj hints hlen hgens
  have KX := hY w _ Y
  obtain ⟨fd, bind, FF⟩ := F w mg fa _ KX G.T.g hmg
  generalize K w.params = K at KX FF
  -- the heap
  let so : Obj := { cls := .type "list", data := .seq vs.toArray }
  let H : Hp := Hscr K a so (ns.map V.int)
  have rel : Vals (ns.map V.int) vs := vals_ints hints
  have small : (ns.map V.int).length ≤ sizeLine := by
    rw [List.length_map]
    exact Nat.le_trans hlen hn2
  have ok : HOk l.prog w H s1.heap := by
    intro b u hb
    obtain ⟨rfl, _, rfl⟩ := Hscr_some hb
    exact ⟨hobj, small, vs, _, rel, hobj⟩
  have shown : SqL K H a (ns.map V.int) := by
    cases hk : K.lookup a with
    | none => exact Or.inl (Or.inr ⟨so, if_pos ⟨rfl, hk⟩⟩)
    | some ob =>
      have hob := KX a ob hk
      rw [hobj] at hob
      cases hob
      refine Or.inr ⟨_, vs.toArray, _, hk, rfl, rfl, rfl, ?_, by simpa using rel⟩
      rw [List.size_toArray, hints.length]
      exact Nat.le_trans hlen hn2
  -- what is not the script stands in the base
  have notscr : ∀ {b : Addr} {ob : Obj}, s1.heap.get? b = some ob → (∀ z m, ob.data ≠ .seq z m) → H b = none := by
    intro b ob hb hne
    refine Hscr_none ?_
    rintro ⟨rfl, _⟩
    rw [hobj] at hb
    cases hb
    exact hne _ _ rfl
  have ns' : ∀ {b : Addr} {m : Str → Option Value}, s1.heap.Ns b m → (hidT s1.heap H).Ns b m := by
    rintro b m ⟨ob, es, ep, h1, h2, h3⟩
    exact ⟨ob, es, ep, hidT_get h1 (notscr h1 (fun z m e => by rw [h2] at e; cases e)), h2, h3⟩
  have kin : K.In (hidT s1.heap H) := by
    intro b ob hb
    refine hidT_get (KX b ob hb) (Hscr_none ?_)
    rintro ⟨rfl, hk⟩
    rw [hb] at hk
    cases hk
  obtain ⟨mc, l1, l2⟩ := G.T.nolimit
  have md : Mod K mg (hidT s1.heap H) := ⟨kin, ns' G.T.g, ⟨mb, ns' G.T.b, G.T.builtins⟩, ⟨mc, ns' l1, l2⟩⟩
  have env : Env0 l.prog w K mg (hidT s1.heap H) callerA [] s1 H :=
    { frames := rfl, mod := md, bs := fun _ _ e => of_hidT e, bsz := Nat.le_of_eq (hidT_size _ _), funs := trivial, frf := fun b hb => (List.not_mem_nil hb).elim, hok := ok, bare := .of_eq hgens }
  have F0 := FF _ kin (ns' G.T.g)
  have promise : liftP K mg S [.ref a] H (fun v _ => v = .bl true) L2.E0 := by
    refine ⟨H, fun _ => none, [.scr ns], _, noD, ⟨fun _ _ e => e, (fun _ _ e => nomatch e), (fun _ _ e => nomatch e)⟩, .one (.scr shown), hS ns hlen, ?_, fun _ _ _ _ _ _ _ _ _ _ z => z.elim⟩
    rintro v F' μ' H' dv _ _ hv rfl
    cases hv
    rfl
  refine codeAny_mono (F0.run callerA [] s1 H ⟨[.ref a], []⟩ [.ref a] [.ref a] _ _ rfl hr env (bind s1 (.ref a)) (.cons rfl .nil) promise) ?_
  intro r s' h
  match r, h with
  | .ok (.ret u), ⟨v, H', hos, hbare, un, ok', rv, hv⟩ =>
    subst hv
    cases rv
    refine ⟨rfl, OldK.of_keep ?_, hos, hbare⟩
    intro b ob hb
    by_cases hc : H b = none
    · exact un.keep b ob hb hc (fun z => (List.not_mem_nil z).elim) (fun z => (List.not_mem_nil z).elim)
    · obtain ⟨u, hu⟩ := Option.ne_none_iff_exists'.mp hc
      obtain ⟨rfl, _, rfl⟩ := Hscr_some hu
      obtain ⟨e2, _⟩ := ok' _ _ (un.frzs _ _ _ hu)
      rw [hobj] at hb
      cases hb
      exact e2
end DL

namespace DL
open PySem PySem.Spec PyProof.Rows L2
theorem end_law : ∀ ns : List Int, ns.length ≤ 63 → sp_law [.scr ns] (fun _ => none) (fun v _ => v = .bl true) noD := fun ns h => ⟨ns, rfl, h, fun _ => rfl⟩
def topS (i : Nat) : Stmt := PySem.Challenge.pw_carbonpad_k04_errors_and_limits.main.body.getD i (.Pass ⟨0, 0, 0, 0⟩)
section
variable {P : Program} {w : World} {K : PySem.W.Frag} {mg : Str → Option Value} {base : Heap}
abbrev s_law_deck : Stmt := topS 30
theorem sc_law_deck : FnScope ["_law_script", "_law_cells", "_law_cell"] ["_law_script"] (defScope s_law_deck) := ⟨rfl, rfl, rfl, by decide +kernel, rfl, by decide +kernel, by decide +kernel⟩
theorem fn_law_deck {f : Addr} {fd : FuncData} (F : Fun K "_law_deck" "_law_deck" s_law_deck f fd) (m_abs : mg "abs" = none) (m_len : mg "len" = none) : FnG P w K mg base L2.CX0 1 f fd ["_law_script"] (liftP K mg sp_law_deck) := by
  refine FnG.ofD (k := 0) F sc_law_deck len_law_deck b_law_deck ok_law_deck fun cdv A outer s H E B quiet room => ?_
  have nd := sc_law_deck.nd
  exact (ds_cons (ds_setLc (i := 1) (own := [("_law_cell", 2)]) (ns := [2]) rfl nd rfl rfl (sw_true rfl rfl rfl (by decide +kernel)) (di_each (de_var (pv 0))) (blkOk_by (by kernel_rfl)) (by decide) (fun _ _ _ _ _ _ => (dg_name (pg_name (i := 2) nd rfl (by first | exact Or.inl rfl | exact Or.inr rfl)))) (fun _ _ _ _ _ => dts_nil) (fun _ _ _ _ _ => (de_fnB call_abs cs_abs (by rfl) m_abs (by decide +kernel) (daw_cons (dw_var (pv 2)) daw_nil))) (hr := fun _ _ _ _ _ q => lr_val q))
  (ds_last (ds_ret (de_M (df_lst (da_cons (de_M (df_lc (own := [("_law_cell", 2)]) (ns := [2]) rfl nd (di_each (de_var (pv 1))) (blkOk_by (by kernel_rfl)) (by decide) (fun _ _ _ _ _ _ => (dg_name (pg_name (i := 2) nd rfl (by first | exact Or.inl rfl | exact Or.inr rfl)))) (fun _ _ _ _ _ => (dts_one (dt_cmp op_ge ops_ge (dw_var (pv 2)) (dw (de_op op_pow ops_pow (dw de_int) (dw de_int))) (nomark _)))) (fun _ _ _ _ _ => (de_var (pv 2))))) (da_cons (de_op op_addA ops_add (dw_var (pv 1)) (dw (de_lst (da_cons (de_op op_addA ops_add (dw (de_fnB call_lenA cs_len (by rfl) m_len (by decide +kernel) (daw_cons (dw_var (pv 1)) daw_nil))) (dw de_int)) da_nil)))) (da_cons de_int da_nil))))))))
abbrev s_law_draw : Stmt := topS 31
theorem sc_law_draw : FnScope ["_law_deck_here", "_law_below", "_law_rest", "_law_cell", "_law_mixed"] ["_law_deck_here", "_law_below"] (defScope s_law_draw) := ⟨rfl, rfl, rfl, by decide +kernel, rfl, by decide +kernel, by decide +kernel⟩
theorem fn_law_draw {f : Addr} {fd : FuncData} (F : Fun K "_law_draw" "_law_draw" s_law_draw f fd) (m_len : mg "len" = none) : FnG P w K mg base L2.CX0 1 f fd ["_law_deck_here", "_law_below"] (liftP K mg sp_law_draw) := by
  refine FnG.ofD (k := 0) F sc_law_draw len_law_draw b_law_draw ok_law_draw fun cdv A outer s H E B quiet room => ?_
  have nd := sc_law_draw.nd
  exact (ds_cons (ds_while PassesOwn.never (dt_cmp (op_neA room.units) ops_neR (dw (de_ix (dw_var (pv 0)) (dw de_int) (fun _ _ => rfl))) (dw (de_lst da_nil)) (nomark _))
  (ds_cons (ds_setR (fun _ h => ps_set (i := 2) nd rfl (by first | exact Or.inl rfl | exact Or.inr rfl) h) (dr_E (de_ix (dw (de_ix (dw_var (pv 0)) (dw de_int) (fun _ _ => rfl))) (dw de_int) (fun _ _ => rfl))))
  (ds_cons (ds_if (dt_cmp op_gt ops_gt (dw_var (pv 2)) (dw de_int) (nomark _))
  (ds_cons (ds_putM (de_op op_divA ops_div (dw_var (pv 2)) (dw_var (pv 1))) (de_ix (dw_var (pv 0)) (dw de_int) (fun _ _ => rfl)) (dw de_int))
  (ds_last (ds_ret (de_op op_mod ops_mod (dw_var (pv 2)) (dw_var (pv 1))))))
  ds_nil)
  (ds_last (ds_expr (de_mt PySem.F.plainAttrs_list PySem.F.slot_list_pop PySem.F.type_list_pop mt_popAt mts_popAt (dw (de_ix (dw_var (pv 0)) (dw de_int) (fun _ _ => rfl))) (daw_cons (dw de_int) daw_nil)))))))
  (ds_cons (ds_putM (de_op op_addA ops_add (dw (de_ix (dw_var (pv 0)) (dw de_int) (fun _ _ => rfl))) (dw de_int)) (de_var (pv 0)) (dw de_int))
  (ds_cons (ds_setR (fun _ h => ps_set (i := 3) nd rfl (by first | exact Or.inl rfl | exact Or.inr rfl) h) (dr_E (de_op op_mod ops_mod (dw (de_ix (dw (de_ix (dw_var (pv 0)) (dw de_int) (fun _ _ => rfl))) (dw (de_op op_mod ops_mod (dw (de_ix (dw_var (pv 0)) (dw de_int) (fun _ _ => rfl))) (dw (de_fnB call_lenA cs_len (by rfl) m_len (by decide +kernel) (daw_cons (dw (de_ix (dw_var (pv 0)) (dw de_int) (fun _ _ => rfl))) daw_nil))))) (fun _ _ => rfl))) (dw de_int))))
  (ds_cons (ds_setR (fun _ h => ps_set (i := 4) nd rfl (by first | exact Or.inl rfl | exact Or.inr rfl) h) (dr_E (de_op op_addA ops_add (dw (de_op op_mulA ops_mul (dw_var (pv 3)) (dw (de_op op_addA ops_add (dw de_int) (dw (de_op op_mulA ops_mul (dw de_int) (dw (de_ix (dw_var (pv 0)) (dw de_int) (fun _ _ => rfl))))))))) (dw de_int))))
  (ds_cons (ds_setR (fun _ h => ps_set (i := 4) nd rfl (by first | exact Or.inl rfl | exact Or.inr rfl) h) (dr_E (de_op op_mod ops_mod (dw (de_op op_addA ops_add (dw_var (pv 4)) (dw (de_op op_mulA ops_mul (dw (de_op op_mulA ops_mul (dw de_int) (dw (de_ix (dw_var (pv 0)) (dw de_int) (fun _ _ => rfl))))) (dw (de_ix (dw_var (pv 0)) (dw de_int) (fun _ _ => rfl))))))) (dw de_int))))
  (ds_last (ds_ret (de_op op_mod ops_mod (dw (de_op op_divA ops_div (dw (de_op op_mod ops_mod (dw (de_op op_mulA ops_mul (dw_var (pv 4)) (dw_var (pv 4)))) (dw de_int))) (dw de_int))) (dw_var (pv 1))))))))))
abbrev s_lawA_odd : Stmt := topS 32
theorem sc_lawA_odd : FnScope ["_law_deck_here", "_law_some"] ["_law_deck_here"] (defScope s_lawA_odd) := ⟨rfl, rfl, rfl, by decide +kernel, rfl, by decide +kernel, by decide +kernel⟩
theorem fn_lawA_odd {f : Addr} {fd : FuncData} (F : Fun K "_law_odd" "_law_odd" s_lawA_odd f fd) (c_law_draw : Cal P w K mg base L2.CX0 1 "_law_draw" sp_law_draw) : FnG P w K mg base L2.CX0 2 f fd ["_law_deck_here"] (liftP K mg sp_lawA_odd) := by
  refine FnG.ofD (k := 1) F sc_lawA_odd len_lawA_odd b_lawA_odd ok_lawA_odd fun cdv A outer s H E B quiet room => ?_
  have nd := sc_lawA_odd.nd
  exact (ds_cons (ds_setR (fun _ h => ps_set (i := 1) nd rfl (by first | exact Or.inl rfl | exact Or.inr rfl) h) (dr_E (de_lst (da_cons de_non (da_cons de_bl (da_cons de_bl (da_cons (de_neg de_int) (da_cons de_int (da_cons de_int (da_cons de_int (da_cons de_int (da_cons de_int (da_cons (de_op op_pow ops_pow (dw de_int) (dw de_int)) (da_cons (de_str []) (da_cons (de_str [97]) (da_cons (de_str [65]) (da_cons (de_str [97, 98]) (da_cons (de_str [97, 32, 98]) (da_cons (de_tup da_nil) (da_cons (de_lst da_nil) (da_cons de_dict0 da_nil)))))))))))))))))))))
  (ds_last (ds_ret (de_ix (dw (de_op op_addA ops_add (dw_var (pv 1)) (dw (de_lst (da_cons (de_tup (da_cons de_int da_nil)) (da_cons (de_lst (da_cons de_int da_nil)) (da_cons (de_tup (da_cons (de_str [97]) (da_cons de_int da_nil))) (da_cons (de_tup (da_cons (de_str [97]) da_nil)) (da_cons (de_dict1 (s := [97]) (by rfl)) (da_cons (de_tup (da_cons de_non (da_cons de_int da_nil))) (da_cons (de_tup (da_cons (de_str [97]) (da_cons de_bl da_nil))) (da_cons (de_tup (da_cons (de_str []) (da_cons (de_str [98]) da_nil))) da_nil)))))))))))) (dw (de_call c_law_draw quiet (room.mono (by decide)) (by rfl) (da_cons (de_var (pv 0)) (da_cons de_int da_nil)))) (fun _ _ => rfl)))))
abbrev s_lawA_same : Stmt := topS 33
theorem sc_lawA_same : FnScope ["_law_found", "_law_due"] ["_law_found", "_law_due"] (defScope s_lawA_same) := ⟨rfl, rfl, rfl, by decide +kernel, rfl, by decide +kernel, by decide +kernel⟩
theorem fn_lawA_same {f : Addr} {fd : FuncData} (F : Fun K "_law_same" "_law_same" s_lawA_same f fd) (m_repr : mg "repr" = none) : FnG P w K mg base L2.CX0 1 f fd ["_law_found", "_law_due"] (liftP K mg sp_lawA_same) := by
  refine FnG.ofD (k := 0) F sc_lawA_same len_lawA_same b_lawA_same ok_lawA_same fun cdv A outer s H E B quiet room => ?_
  have nd := sc_lawA_same.nd
  exact (ds_last (ds_ret (de_cmp (op_eqA room.units) ops_eq (dw (de_fnB (call_reprO quiet room.units) cs_reprO (by rfl) m_repr (by decide +kernel) (daw_cons (dw_var (pv 0)) daw_nil))) (dw (de_fnB (call_reprO quiet room.units) cs_reprO (by rfl) m_repr (by decide +kernel) (daw_cons (dw_var (pv 1)) daw_nil))) (nomark _))))
abbrev s_law_flags_of : Stmt := topS 34
theorem sc_law_flags_of : FnScope ["_law_e", "_law_found"] ["_law_e"] (defScope s_law_flags_of) := ⟨rfl, rfl, rfl, by decide +kernel, rfl, by decide +kernel, by decide +kernel⟩
theorem fn_law_flags_of {f : Addr} {fd : FuncData} (F : Fun K "_law_flags_of" "_law_flags_of" s_law_flags_of f fd) (m_isinstance : mg "isinstance" = none) {A_BadBatch : Addr} (q_BadBatch : mg "BadBatch" = some (.ref A_BadBatch)) {A_BadForce : Addr} (q_BadForce : mg "BadForce" = some (.ref A_BadForce)) {A_BadLetter : Addr} (q_BadLetter : mg "BadLetter" = some (.ref A_BadLetter)) {A_BadNumber : Addr} (q_BadNumber : mg "BadNumber" = some (.ref A_BadNumber)) {A_BadOrder : Addr} (q_BadOrder : mg "BadOrder" = some (.ref A_BadOrder)) {A_BadSheet : Addr} (q_BadSheet : mg "BadSheet" = some (.ref A_BadSheet)) {A_BadSheets : Addr} (q_BadSheets : mg "BadSheets" = some (.ref A_BadSheets)) {A_BadText : Addr} (q_BadText : mg "BadText" = some (.ref A_BadText)) {A_BadWord : Addr} (q_BadWord : mg "BadWord" = some (.ref A_BadWord)) {A_Busy : Addr} (q_Busy : mg "Busy" = some (.ref A_Busy)) {A_LastSheet : Addr} (q_LastSheet : mg "LastSheet" = some (.ref A_LastSheet)) {A_NoIndex : Addr} (q_NoIndex : mg "NoIndex" = some (.ref A_NoIndex)) {A_NoPlace : Addr} (q_NoPlace : mg "NoPlace" = some (.ref A_NoPlace)) {A_NoSheet : Addr} (q_NoSheet : mg "NoSheet" = some (.ref A_NoSheet)) {A_NoVersion : Addr} (q_NoVersion : mg "NoVersion" = some (.ref A_NoVersion)) {A_NoWords : Addr} (q_NoWords : mg "NoWords" = some (.ref A_NoWords)) {A_NothingToUndo : Addr} (q_NothingToUndo : mg "NothingToUndo" = some (.ref A_NothingToUndo)) {A_Rejected : Addr} (q_Rejected : mg "Rejected" = some (.ref A_Rejected)) {A_TooLong : Addr} (q_TooLong : mg "TooLong" = some (.ref A_TooLong)) {A_TooManyEdits : Addr} (q_TooManyEdits : mg "TooManyEdits" = some (.ref A_TooManyEdits)) {A_TooStrong : Addr} (q_TooStrong : mg "TooStrong" = some (.ref A_TooStrong)) (xt : XTabOk K mg tab_law) : FnG P w K mg base L2.CX0 1 f fd ["_law_e"] (liftP K mg sp_law_flags_of) := by
  refine FnG.ofD (k := 0) F sc_law_flags_of len_law_flags_of b_law_flags_of ok_law_flags_of fun cdv A outer s H E B quiet room => ?_
  have nd := sc_law_flags_of.nd
  exact (ds_cons (ds_setR (fun _ h => ps_set (i := 1) nd rfl (by first | exact Or.inl rfl | exact Or.inr rfl) h) (dr_E (de_lst (da_cons (de_fnB call_isE (cs_isE xt) (by rfl) m_isinstance (by decide +kernel) (daw_cons (dw_var (pv 0)) (daw_cons (dw (de_gl (by rfl) ⟨_, q_BadNumber⟩)) daw_nil))) (da_cons (de_fnB call_isE (cs_isE xt) (by rfl) m_isinstance (by decide +kernel) (daw_cons (dw_var (pv 0)) (daw_cons (dw (de_gl (by rfl) ⟨_, q_BadOrder⟩)) daw_nil))) (da_cons (de_fnB call_isE (cs_isE xt) (by rfl) m_isinstance (by decide +kernel) (daw_cons (dw_var (pv 0)) (daw_cons (dw (de_gl (by rfl) ⟨_, q_BadWord⟩)) daw_nil))) (da_cons (de_fnB call_isE (cs_isE xt) (by rfl) m_isinstance (by decide +kernel) (daw_cons (dw_var (pv 0)) (daw_cons (dw (de_gl (by rfl) ⟨_, q_TooLong⟩)) daw_nil))) da_nil)))))))
  (ds_cons (ds_setR (fun _ h => ps_set (i := 1) nd rfl (by first | exact Or.inl rfl | exact Or.inr rfl) h) (dr_E (de_op op_addA ops_add (dw_var (pv 1)) (dw (de_lst (da_cons (de_fnB call_isE (cs_isE xt) (by rfl) m_isinstance (by decide +kernel) (daw_cons (dw_var (pv 0)) (daw_cons (dw (de_gl (by rfl) ⟨_, q_BadSheet⟩)) daw_nil))) (da_cons (de_fnB call_isE (cs_isE xt) (by rfl) m_isinstance (by decide +kernel) (daw_cons (dw_var (pv 0)) (daw_cons (dw (de_gl (by rfl) ⟨_, q_BadSheets⟩)) daw_nil))) (da_cons (de_fnB call_isE (cs_isE xt) (by rfl) m_isinstance (by decide +kernel) (daw_cons (dw_var (pv 0)) (daw_cons (dw (de_gl (by rfl) ⟨_, q_BadLetter⟩)) daw_nil))) da_nil))))))))
  (ds_cons (ds_setR (fun _ h => ps_set (i := 1) nd rfl (by first | exact Or.inl rfl | exact Or.inr rfl) h) (dr_E (de_op op_addA ops_add (dw_var (pv 1)) (dw (de_lst (da_cons (de_fnB call_isE (cs_isE xt) (by rfl) m_isinstance (by decide +kernel) (daw_cons (dw_var (pv 0)) (daw_cons (dw (de_gl (by rfl) ⟨_, q_BadForce⟩)) daw_nil))) (da_cons (de_fnB call_isE (cs_isE xt) (by rfl) m_isinstance (by decide +kernel) (daw_cons (dw_var (pv 0)) (daw_cons (dw (de_gl (by rfl) ⟨_, q_TooStrong⟩)) daw_nil))) (da_cons (de_fnB call_isE (cs_isE xt) (by rfl) m_isinstance (by decide +kernel) (daw_cons (dw_var (pv 0)) (daw_cons (dw (de_gl (by rfl) ⟨_, q_Rejected⟩)) daw_nil))) da_nil))))))))
  (ds_cons (ds_setR (fun _ h => ps_set (i := 1) nd rfl (by first | exact Or.inl rfl | exact Or.inr rfl) h) (dr_E (de_op op_addA ops_add (dw_var (pv 1)) (dw (de_lst (da_cons (de_fnB call_isE (cs_isE xt) (by rfl) m_isinstance (by decide +kernel) (daw_cons (dw_var (pv 0)) (daw_cons (dw (de_gl (by rfl) ⟨_, q_BadText⟩)) daw_nil))) (da_cons (de_fnB call_isE (cs_isE xt) (by rfl) m_isinstance (by decide +kernel) (daw_cons (dw_var (pv 0)) (daw_cons (dw (de_gl (by rfl) ⟨_, q_NoWords⟩)) daw_nil))) (da_cons (de_fnB call_isE (cs_isE xt) (by rfl) m_isinstance (by decide +kernel) (daw_cons (dw_var (pv 0)) (daw_cons (dw (de_gl (by rfl) ⟨_, q_LastSheet⟩)) daw_nil))) (da_cons (de_fnB call_isE (cs_isE xt) (by rfl) m_isinstance (by decide +kernel) (daw_cons (dw_var (pv 0)) (daw_cons (dw (de_gl (by rfl) ⟨_, q_Busy⟩)) daw_nil))) da_nil)))))))))
  (ds_cons (ds_setR (fun _ h => ps_set (i := 1) nd rfl (by first | exact Or.inl rfl | exact Or.inr rfl) h) (dr_E (de_op op_addA ops_add (dw_var (pv 1)) (dw (de_lst (da_cons (de_fnB call_isE (cs_isE xt) (by rfl) m_isinstance (by decide +kernel) (daw_cons (dw_var (pv 0)) (daw_cons (dw (de_gl (by rfl) ⟨_, q_TooManyEdits⟩)) daw_nil))) (da_cons (de_fnB call_isE (cs_isE xt) (by rfl) m_isinstance (by decide +kernel) (daw_cons (dw_var (pv 0)) (daw_cons (dw (de_gl (by rfl) ⟨_, q_NothingToUndo⟩)) daw_nil))) (da_cons (de_fnB call_isE (cs_isE xt) (by rfl) m_isinstance (by decide +kernel) (daw_cons (dw_var (pv 0)) (daw_cons (dw (de_gl (by rfl) ⟨_, q_BadBatch⟩)) daw_nil))) da_nil))))))))
  (ds_last (ds_ret (de_op op_addA ops_add (dw_var (pv 1)) (dw (de_lst (da_cons (de_fnB call_isE (cs_isE xt) (by rfl) m_isinstance (by decide +kernel) (daw_cons (dw_var (pv 0)) (daw_cons (dw (de_gl (by rfl) ⟨_, q_NoSheet⟩)) daw_nil))) (da_cons (de_fnB call_isE (cs_isE xt) (by rfl) m_isinstance (by decide +kernel) (daw_cons (dw_var (pv 0)) (daw_cons (dw (de_gl (by rfl) ⟨_, q_NoPlace⟩)) daw_nil))) (da_cons (de_fnB call_isE (cs_isE xt) (by rfl) m_isinstance (by decide +kernel) (daw_cons (dw_var (pv 0)) (daw_cons (dw (de_gl (by rfl) ⟨_, q_NoIndex⟩)) daw_nil))) (da_cons (de_fnB call_isE (cs_isE xt) (by rfl) m_isinstance (by decide +kernel) (daw_cons (dw_var (pv 0)) (daw_cons (dw (de_gl (by rfl) ⟨_, q_NoVersion⟩)) daw_nil))) da_nil))))))))))))))
abbrev s_law_errors : Stmt := topS 35
theorem sc_law_errors : FnScope ["_law_value", "_law_found"] ["_law_value"] (defScope s_law_errors) := ⟨rfl, rfl, rfl, by decide +kernel, rfl, by decide +kernel, by decide +kernel⟩
theorem fn_law_errors {f : Addr} {fd : FuncData} (F : Fun K "_law_errors" "_law_errors" s_law_errors f fd) (x_BadBatch : NoFld K mg "BadBatch") (x_BadForce : FldCls K mg "BadForce" "value") (x_BadLetter : FldCls K mg "BadLetter" "value") (x_BadNumber : FldCls K mg "BadNumber" "value") (x_BadOrder : FldCls K mg "BadOrder" "value") (x_BadSheet : FldCls K mg "BadSheet" "index") (x_BadSheets : FldCls K mg "BadSheets" "error") (x_BadText : FldCls K mg "BadText" "index") (x_BadWord : FldCls K mg "BadWord" "value") (x_Busy : NoFld K mg "Busy") (x_LastSheet : NoFld K mg "LastSheet") (x_NoIndex : FldCls K mg "NoIndex" "index") (x_NoPlace : FldCls K mg "NoPlace" "value") (x_NoSheet : FldCls K mg "NoSheet" "value") (x_NoVersion : FldCls K mg "NoVersion" "value") (x_NoWords : NoFld K mg "NoWords") (x_NothingToUndo : NoFld K mg "NothingToUndo") (x_Rejected : FldCls K mg "Rejected" "index") (x_TooLong : FldCls K mg "TooLong" "limit") (x_TooManyEdits : NoFld K mg "TooManyEdits") (x_TooStrong : FldCls K mg "TooStrong" "limit") : FnG P w K mg base L2.CX0 2 f fd ["_law_value"] (liftP K mg sp_law_errors) := by
  refine FnG.ofD (k := 1) F sc_law_errors len_law_errors b_law_errors ok_law_errors fun cdv A outer s H E B quiet room => ?_
  have nd := sc_law_errors.nd
  exact (ds_cons (ds_setR (fun _ h => ps_set (i := 1) nd rfl (by first | exact Or.inl rfl | exact Or.inr rfl) h) (dr_E (de_lst (da_cons (de_mk (dx_fld x_BadNumber room (da_cons (de_var (pv 0)) da_nil) (by rfl))) (da_cons (de_mk (dx_fld x_BadOrder room (da_cons (de_var (pv 0)) da_nil) (by rfl))) (da_cons (de_mk (dx_fld x_BadWord room (da_cons (de_var (pv 0)) da_nil) (by rfl))) (da_cons (de_mk (dx_fld x_TooLong room (da_cons (de_var (pv 0)) da_nil) (by rfl))) (da_cons (de_mk (dx_fld x_BadSheet room (da_cons (de_var (pv 0)) da_nil) (by rfl))) (da_cons (de_mk (dx_fld x_BadSheets room (da_cons (de_var (pv 0)) da_nil) (by rfl))) da_nil)))))))))
  (ds_cons (ds_setR (fun _ h => ps_set (i := 1) nd rfl (by first | exact Or.inl rfl | exact Or.inr rfl) h) (dr_E (de_op op_addA ops_add (dw_var (pv 1)) (dw (de_lst (da_cons (de_mk (dx_fld x_BadLetter room (da_cons (de_var (pv 0)) da_nil) (by rfl))) (da_cons (de_mk (dx_fld x_BadForce room (da_cons (de_var (pv 0)) da_nil) (by rfl))) (da_cons (de_mk (dx_fld x_TooStrong room (da_cons (de_var (pv 0)) da_nil) (by rfl))) (da_cons (de_mk (dx_fld x_Rejected room (da_cons (de_var (pv 0)) da_nil) (by rfl))) (da_cons (de_mk (dx_fld x_BadText room (da_cons (de_var (pv 0)) da_nil) (by rfl))) (da_cons (de_mk (dx_none x_NoWords (by rfl))) da_nil)))))))))))
  (ds_cons (ds_setR (fun _ h => ps_set (i := 1) nd rfl (by first | exact Or.inl rfl | exact Or.inr rfl) h) (dr_E (de_op op_addA ops_add (dw_var (pv 1)) (dw (de_lst (da_cons (de_mk (dx_none x_LastSheet (by rfl))) (da_cons (de_mk (dx_none x_Busy (by rfl))) (da_cons (de_mk (dx_none x_TooManyEdits (by rfl))) (da_cons (de_mk (dx_none x_NothingToUndo (by rfl))) (da_cons (de_mk (dx_none x_BadBatch (by rfl))) (da_cons (de_mk (dx_fld x_NoSheet room (da_cons (de_var (pv 0)) da_nil) (by rfl))) da_nil)))))))))))
  (ds_last (ds_ret (de_op op_addA ops_add (dw_var (pv 1)) (dw (de_lst (da_cons (de_mk (dx_fld x_NoPlace room (da_cons (de_var (pv 0)) da_nil) (by rfl))) (da_cons (de_mk (dx_fld x_NoIndex room (da_cons (de_var (pv 0)) da_nil) (by rfl))) (da_cons (de_mk (dx_fld x_NoVersion room (da_cons (de_var (pv 0)) da_nil) (by rfl))) da_nil)))))))))))
abbrev s_law_fields : Stmt := topS 36
theorem sc_law_fields : FnScope ["_law_value", "_law_found"] ["_law_value"] (defScope s_law_fields) := ⟨rfl, rfl, rfl, by decide +kernel, rfl, by decide +kernel, by decide +kernel⟩
theorem fn_law_fields {f : Addr} {fd : FuncData} (F : Fun K "_law_fields" "_law_fields" s_law_fields f fd) (x_BadForce : FldCls K mg "BadForce" "value") (x_BadLetter : FldCls K mg "BadLetter" "value") (x_BadNumber : FldCls K mg "BadNumber" "value") (x_BadOrder : FldCls K mg "BadOrder" "value") (x_BadSheet : FldCls K mg "BadSheet" "index") (x_BadSheets : FldCls K mg "BadSheets" "error") (x_BadText : FldCls K mg "BadText" "index") (x_BadWord : FldCls K mg "BadWord" "value") (x_NoIndex : FldCls K mg "NoIndex" "index") (x_NoPlace : FldCls K mg "NoPlace" "value") (x_NoSheet : FldCls K mg "NoSheet" "value") (x_NoVersion : FldCls K mg "NoVersion" "value") (x_Rejected : FldCls K mg "Rejected" "index") (x_TooLong : FldCls K mg "TooLong" "limit") (x_TooStrong : FldCls K mg "TooStrong" "limit") (r_BadForce_value : FldRd K mg "BadForce" "value") (r_BadLetter_value : FldRd K mg "BadLetter" "value") (r_BadNumber_value : FldRd K mg "BadNumber" "value") (r_BadOrder_value : FldRd K mg "BadOrder" "value") (r_BadSheet_index : FldRd K mg "BadSheet" "index") (r_BadSheets_error : FldRd K mg "BadSheets" "error") (r_BadText_index : FldRd K mg "BadText" "index") (r_BadWord_value : FldRd K mg "BadWord" "value") (r_NoIndex_index : FldRd K mg "NoIndex" "index") (r_NoPlace_value : FldRd K mg "NoPlace" "value") (r_NoSheet_value : FldRd K mg "NoSheet" "value") (r_NoVersion_value : FldRd K mg "NoVersion" "value") (r_Rejected_index : FldRd K mg "Rejected" "index") (r_TooLong_limit : FldRd K mg "TooLong" "limit") (r_TooStrong_limit : FldRd K mg "TooStrong" "limit") : FnG P w K mg base L2.CX0 2 f fd ["_law_value"] (liftP K mg sp_law_fields) := by
  refine FnG.ofD (k := 1) F sc_law_fields len_law_fields b_law_fields ok_law_fields fun cdv A outer s H E B quiet room => ?_
  have nd := sc_law_fields.nd
  exact (ds_cons (ds_setR (fun _ h => ps_set (i := 1) nd rfl (by first | exact Or.inl rfl | exact Or.inr rfl) h) (dr_E (de_lst (da_cons (de_fldE (List.forall_mem_cons.mpr ⟨r_BadNumber_value, (fun _ h => nomatch h)⟩) (de_mk (dx_fld x_BadNumber room (da_cons (de_var (pv 0)) da_nil) (by rfl)))) (da_cons (de_fldE (List.forall_mem_cons.mpr ⟨r_BadOrder_value, (fun _ h => nomatch h)⟩) (de_mk (dx_fld x_BadOrder room (da_cons (de_var (pv 0)) da_nil) (by rfl)))) (da_cons (de_fldE (List.forall_mem_cons.mpr ⟨r_BadWord_value, (fun _ h => nomatch h)⟩) (de_mk (dx_fld x_BadWord room (da_cons (de_var (pv 0)) da_nil) (by rfl)))) (da_cons (de_fldE (List.forall_mem_cons.mpr ⟨r_TooLong_limit, (fun _ h => nomatch h)⟩) (de_mk (dx_fld x_TooLong room (da_cons (de_var (pv 0)) da_nil) (by rfl)))) da_nil)))))))
  (ds_cons (ds_setR (fun _ h => ps_set (i := 1) nd rfl (by first | exact Or.inl rfl | exact Or.inr rfl) h) (dr_E (de_op op_addA ops_add (dw_var (pv 1)) (dw (de_lst (da_cons (de_fldE (List.forall_mem_cons.mpr ⟨r_BadSheet_index, (fun _ h => nomatch h)⟩) (de_mk (dx_fld x_BadSheet room (da_cons (de_var (pv 0)) da_nil) (by rfl)))) (da_cons (de_fldE (List.forall_mem_cons.mpr ⟨r_BadSheets_error, (fun _ h => nomatch h)⟩) (de_mk (dx_fld x_BadSheets room (da_cons (de_var (pv 0)) da_nil) (by rfl)))) (da_cons (de_fldE (List.forall_mem_cons.mpr ⟨r_BadLetter_value, (fun _ h => nomatch h)⟩) (de_mk (dx_fld x_BadLetter room (da_cons (de_var (pv 0)) da_nil) (by rfl)))) (da_cons (de_fldE (List.forall_mem_cons.mpr ⟨r_BadForce_value, (fun _ h => nomatch h)⟩) (de_mk (dx_fld x_BadForce room (da_cons (de_var (pv 0)) da_nil) (by rfl)))) da_nil)))))))))
  (ds_cons (ds_setR (fun _ h => ps_set (i := 1) nd rfl (by first | exact Or.inl rfl | exact Or.inr rfl) h) (dr_E (de_op op_addA ops_add (dw_var (pv 1)) (dw (de_lst (da_cons (de_fldE (List.forall_mem_cons.mpr ⟨r_TooStrong_limit, (fun _ h => nomatch h)⟩) (de_mk (dx_fld x_TooStrong room (da_cons (de_var (pv 0)) da_nil) (by rfl)))) (da_cons (de_fldE (List.forall_mem_cons.mpr ⟨r_Rejected_index, (fun _ h => nomatch h)⟩) (de_mk (dx_fld x_Rejected room (da_cons (de_var (pv 0)) da_nil) (by rfl)))) (da_cons (de_fldE (List.forall_mem_cons.mpr ⟨r_BadText_index, (fun _ h => nomatch h)⟩) (de_mk (dx_fld x_BadText room (da_cons (de_var (pv 0)) da_nil) (by rfl)))) (da_cons (de_fldE (List.forall_mem_cons.mpr ⟨r_NoSheet_value, (fun _ h => nomatch h)⟩) (de_mk (dx_fld x_NoSheet room (da_cons (de_var (pv 0)) da_nil) (by rfl)))) da_nil)))))))))
  (ds_last (ds_ret (de_op op_addA ops_add (dw_var (pv 1)) (dw (de_lst (da_cons (de_fldE (List.forall_mem_cons.mpr ⟨r_NoPlace_value, (fun _ h => nomatch h)⟩) (de_mk (dx_fld x_NoPlace room (da_cons (de_var (pv 0)) da_nil) (by rfl)))) (da_cons (de_fldE (List.forall_mem_cons.mpr ⟨r_NoIndex_index, (fun _ h => nomatch h)⟩) (de_mk (dx_fld x_NoIndex room (da_cons (de_var (pv 0)) da_nil) (by rfl)))) (da_cons (de_fldE (List.forall_mem_cons.mpr ⟨r_NoVersion_value, (fun _ h => nomatch h)⟩) (de_mk (dx_fld x_NoVersion room (da_cons (de_var (pv 0)) da_nil) (by rfl)))) da_nil)))))))))))
abbrev s_law : Stmt := topS 37
theorem sc_law : FnScope ["_law_script", "_law_deck_here", "_law_turn", "_law_value", "_law_errors_here", "_law_k", "_law_bases", "_law_found", "_law_j", "_law_field"] ["_law_script"] (defScope s_law) := ⟨rfl, rfl, rfl, by decide +kernel, rfl, by decide +kernel, by decide +kernel⟩
theorem fn_law {f : Addr} {fd : FuncData} (F : Fun K "law" "law" s_law f fd) (m_LookupError : mg "LookupError" = none) (m_ValueError : mg "ValueError" = none) (m_isinstance : mg "isinstance" = none) (m_range : mg "range" = none) {t_BATCH : Tok} (g_BATCH : mg "BATCH" = some (.int 20 t_BATCH)) {t_HISTORY : Tok} (g_HISTORY : mg "HISTORY" = some (.int 20 t_HISTORY)) {t_MAX_BLOCK : Tok} (g_MAX_BLOCK : mg "MAX_BLOCK" = some (.int 12 t_MAX_BLOCK)) {t_MAX_SHEETS : Tok} (g_MAX_SHEETS : mg "MAX_SHEETS" = some (.int 8 t_MAX_SHEETS)) {t_MAX_TIMES : Tok} (g_MAX_TIMES : mg "MAX_TIMES" = some (.int 1000000000000 t_MAX_TIMES)) {t_MAX_WORD : Tok} (g_MAX_WORD : mg "MAX_WORD" = some (.int 30 t_MAX_WORD)) (c_law_deck : Cal P w K mg base L2.CX0 1 "_law_deck" sp_law_deck) (c_law_errors : Cal P w K mg base L2.CX0 2 "_law_errors" sp_law_errors) (c_law_fields : Cal P w K mg base L2.CX0 2 "_law_fields" sp_law_fields) (c_law_flags_of : Cal P w K mg base L2.CX0 1 "_law_flags_of" sp_law_flags_of) (c_lawA_odd : Cal P w K mg base L2.CX0 2 "_law_odd" sp_lawA_odd) (c_lawA_same : Cal P w K mg base L2.CX0 1 "_law_same" sp_lawA_same) {A_PadError : Addr} (q_PadError : mg "PadError" = some (.ref A_PadError)) (xt : XTabOk K mg tab_law) : FnG P w K mg base L2.CX0 3 f fd ["_law_script"] (liftP K mg sp_law) := by
  refine FnG.ofD (k := 2) F sc_law len_law b_law ok_law fun cdv A outer s H E B quiet room => ?_
  have nd := sc_law.nd
  exact (ds_cons (ds_setR (fun _ h => ps_set (i := 1) nd rfl (by first | exact Or.inl rfl | exact Or.inr rfl) h) (dr_E (de_call c_law_deck quiet (room.mono (by decide)) (by rfl) (da_cons (de_var (pv 0)) da_nil))))
  (ds_cons (ds_for PassesOwn.never rfl (di_rng1 (by rfl) m_range (da_cons de_int da_nil)) (dg_name (pg_name (i := 2) nd rfl (by first | exact Or.inl rfl | exact Or.inr rfl)))
  (ds_cons (ds_setR (fun _ h => ps_set (i := 3) nd rfl (by first | exact Or.inl rfl | exact Or.inr rfl) h) (dr_E (de_call c_lawA_odd quiet (room.mono (by decide)) (by rfl) (da_cons (de_var (pv 1)) da_nil))))
  (ds_cons (ds_setR (fun _ h => ps_set (i := 4) nd rfl (by first | exact Or.inl rfl | exact Or.inr rfl) h) (dr_E (de_call c_law_errors quiet (room.mono (by decide)) (by rfl) (da_cons (de_var (pv 3)) da_nil))))
  (ds_cons (ds_for PassesOwn.never rfl (di_rng1 (by rfl) m_range (da_cons de_int da_nil)) (dg_name (pg_name (i := 5) nd rfl (by first | exact Or.inl rfl | exact Or.inr rfl)))
  (ds_cons (ds_setR (fun _ h => ps_set (i := 6) nd rfl (by first | exact Or.inl rfl | exact Or.inr rfl) h) (dr_F (df_lst (da_cons (de_fnB call_isE (cs_isE xt) (by rfl) m_isinstance (by decide +kernel) (daw_cons (dw (de_ix (dw_var (pv 4)) (dw_var (pv 5)) (fun _ _ => rfl))) (daw_cons (dw (de_gl (by rfl) ⟨_, q_PadError⟩)) daw_nil))) (da_cons (de_fnB call_isE (cs_isE xt) (by rfl) m_isinstance (by decide +kernel) (daw_cons (dw (de_ix (dw_var (pv 4)) (dw_var (pv 5)) (fun _ _ => rfl))) (daw_cons (dw (de_tyN (by rfl) m_ValueError (by decide +kernel))) daw_nil))) da_nil)))))
  (ds_cons (ds_app (fun _ h => ps_expr (pe_bm PySem.F.plainAttrs_list PySem.F.slot_list_append PySem.F.type_list_append mt_append (pv 6) h)) (de_fnB call_isE (cs_isE xt) (by rfl) m_isinstance (by decide +kernel) (daw_cons (dw (de_ix (dw_var (pv 4)) (dw_var (pv 5)) (fun _ _ => rfl))) (daw_cons (dw (de_tyN (by rfl) m_LookupError (by decide +kernel))) daw_nil))))
  (ds_last (ds_if (DPW.dt (dpw_or (dt_cmp (op_neA room.units) ops_ne (dw (de_call c_law_flags_of quiet (room.mono (by decide)) (by rfl) (da_cons (de_ix (dw_var (pv 4)) (dw_var (pv 5)) (fun _ _ => rfl)) da_nil))) (dw (de_F (df_lc (own := [("_law_j", 8)]) (ns := [8]) rfl nd (di_rng1 (by rfl) m_range (da_cons de_int da_nil)) (blkOk_by (by kernel_rfl)) (by decide) (fun _ _ _ _ _ _ => (dg_name (pg_name (i := 8) nd rfl (by first | exact Or.inl rfl | exact Or.inr rfl)))) (fun _ _ _ _ _ => dts_nil) (fun _ _ _ _ _ => (de_cmp (op_eqA room.units) ops_eq (dw_var (pv 8)) (dw_var (pv 5)) (nomark _)))))) (nomark _)) (dpw_or1 (dt_cmp (op_neA room.units) ops_ne (dw_var (pv 6)) (dw (de_lst (da_cons (de_cmp op_ltA ops_lt (dw_var (pv 5)) (dw de_int) (nomark _)) (da_cons (de_cmp op_ltA ops_lt (dw_var (pv 5)) (dw de_int) (nomark _)) (da_cons (de_cmp op_gt ops_gt (dw_var (pv 5)) (dw de_int) (nomark _)) da_nil))))) (nomark _)))))
  (ds_last (ds_ret de_bl))
  ds_nil)))))
  (ds_last (ds_if (dt_cmp (op_neNil room.units) (ops_nilC _) (dw (de_F (df_lc (own := [("_law_field", 9)]) (ns := [9]) rfl nd (di_each (de_call c_law_fields quiet (room.mono (by decide)) (by rfl) (da_cons (de_var (pv 3)) da_nil))) (blkOk_by (by kernel_rfl)) (by decide) (fun _ _ _ _ _ _ => (dg_name (pg_name (i := 9) nd rfl (by first | exact Or.inl rfl | exact Or.inr rfl)))) (fun _ _ _ _ _ => (dts_one (dt_not (dt_val (de_call c_lawA_same quiet (room.mono (by decide)) (by rfl) (da_cons (de_var (pv 9)) (da_cons (de_var (pv 3)) da_nil))))))) (fun _ _ _ _ _ => (de_var (pv 9)))))) (dw (de_lst da_nil)) (nomark _))
  (ds_last (ds_ret de_bl))
  ds_nil))))))
  (ds_cons (ds_setR (fun _ h => ps_set (i := 7) nd rfl (by first | exact Or.inl rfl | exact Or.inr rfl) h) (dr_E (de_lst (da_cons (de_globI (by rfl) g_MAX_WORD) (da_cons (de_globI (by rfl) g_MAX_SHEETS) (da_cons (de_globI (by rfl) g_MAX_BLOCK) (da_cons (de_globI (by rfl) g_MAX_TIMES) (da_cons (de_globI (by rfl) g_HISTORY) (da_cons (de_globI (by rfl) g_BATCH) da_nil)))))))))
  (ds_last (ds_ret (de_call c_lawA_same quiet (room.mono (by decide)) (by rfl) (da_cons (de_var (pv 7)) (da_cons (de_lst (da_cons de_int (da_cons de_int (da_cons de_int (da_cons (de_op op_pow ops_pow (dw de_int) (dw de_int)) (da_cons de_int (da_cons de_int da_nil))))))) da_nil))))))))
end
theorem all_mk {P : Program} {w : World} {K : PySem.W.Frag} {h : Heap} {mg : Str → Option Value} {fa : Addr} (X : K.In h) (G : h.Ns mainGlobals mg) (hfa : mg "law" = some (.ref fa))
    {f0 : Addr} {od0 an0 : Option Addr} {sl0 : Array (Option Value)} {oc0 kV0 dc0 pm0 cd0 ct0 : Value}
    {f1 : Addr} {od1 an1 : Option Addr} {sl1 : Array (Option Value)} {oc1 kV1 dc1 pm1 cd1 ct1 : Value}
    {f2 : Addr} {od2 an2 : Option Addr} {sl2 : Array (Option Value)} {oc2 kV2 dc2 pm2 cd2 ct2 : Value}
    {f3 : Addr} {od3 an3 : Option Addr} {sl3 : Array (Option Value)} {oc3 kV3 dc3 pm3 cd3 ct3 : Value}
    {f4 : Addr} {od4 an4 : Option Addr} {sl4 : Array (Option Value)} {oc4 kV4 dc4 pm4 cd4 ct4 : Value}
    {f5 : Addr} {od5 an5 : Option Addr} {sl5 : Array (Option Value)} {oc5 kV5 dc5 pm5 cd5 ct5 : Value}
    {f6 : Addr} {od6 an6 : Option Addr} {sl6 : Array (Option Value)} {oc6 kV6 dc6 pm6 cd6 ct6 : Value}
    {f7 : Addr} {od7 an7 : Option Addr} {sl7 : Array (Option Value)} {oc7 kV7 dc7 pm7 cd7 ct7 : Value}
    {t_BATCH : Tok}
    {t_HISTORY : Tok}
    {t_MAX_BLOCK : Tok}
    {t_MAX_SHEETS : Tok}
    {t_MAX_TIMES : Tok}
    {t_MAX_WORD : Tok}
    {A_BadBatch : Addr}
    {A_BadForce : Addr}
    {A_BadLetter : Addr}
    {A_BadNumber : Addr}
    {A_BadOrder : Addr}
    {A_BadSheet : Addr}
    {A_BadSheets : Addr}
    {A_BadText : Addr}
    {A_BadWord : Addr}
    {A_Busy : Addr}
    {A_LastSheet : Addr}
    {A_NoIndex : Addr}
    {A_NoPlace : Addr}
    {A_NoSheet : Addr}
    {A_NoVersion : Addr}
    {A_NoWords : Addr}
    {A_NothingToUndo : Addr}
    {A_PadError : Addr}
    {A_Rejected : Addr}
    {A_TooLong : Addr}
    {A_TooManyEdits : Addr}
    {A_TooStrong : Addr}
    {I_BadNumber : Addr} {xod_BadNumber xan_BadNumber : Option Addr} {xsl_BadNumber : Array (Option Value)} {xoc_BadNumber xdc_BadNumber xpm_BadNumber xcd_BadNumber xct_BadNumber : Value} {xp1_BadNumber xp2_BadNumber xq1_BadNumber xq2_BadNumber xq3_BadNumber xq4_BadNumber : Pos}
    {I_BadOrder : Addr} {xod_BadOrder xan_BadOrder : Option Addr} {xsl_BadOrder : Array (Option Value)} {xoc_BadOrder xdc_BadOrder xpm_BadOrder xcd_BadOrder xct_BadOrder : Value} {xp1_BadOrder xp2_BadOrder xq1_BadOrder xq2_BadOrder xq3_BadOrder xq4_BadOrder : Pos}
    {I_BadWord : Addr} {xod_BadWord xan_BadWord : Option Addr} {xsl_BadWord : Array (Option Value)} {xoc_BadWord xdc_BadWord xpm_BadWord xcd_BadWord xct_BadWord : Value} {xp1_BadWord xp2_BadWord xq1_BadWord xq2_BadWord xq3_BadWord xq4_BadWord : Pos}
    {I_TooLong : Addr} {xod_TooLong xan_TooLong : Option Addr} {xsl_TooLong : Array (Option Value)} {xoc_TooLong xdc_TooLong xpm_TooLong xcd_TooLong xct_TooLong : Value} {xp1_TooLong xp2_TooLong xq1_TooLong xq2_TooLong xq3_TooLong xq4_TooLong : Pos}
    {I_BadSheet : Addr} {xod_BadSheet xan_BadSheet : Option Addr} {xsl_BadSheet : Array (Option Value)} {xoc_BadSheet xdc_BadSheet xpm_BadSheet xcd_BadSheet xct_BadSheet : Value} {xp1_BadSheet xp2_BadSheet xq1_BadSheet xq2_BadSheet xq3_BadSheet xq4_BadSheet : Pos}
    {I_BadSheets : Addr} {xod_BadSheets xan_BadSheets : Option Addr} {xsl_BadSheets : Array (Option Value)} {xoc_BadSheets xdc_BadSheets xpm_BadSheets xcd_BadSheets xct_BadSheets : Value} {xp1_BadSheets xp2_BadSheets xq1_BadSheets xq2_BadSheets xq3_BadSheets xq4_BadSheets : Pos}
    {I_BadLetter : Addr} {xod_BadLetter xan_BadLetter : Option Addr} {xsl_BadLetter : Array (Option Value)} {xoc_BadLetter xdc_BadLetter xpm_BadLetter xcd_BadLetter xct_BadLetter : Value} {xp1_BadLetter xp2_BadLetter xq1_BadLetter xq2_BadLetter xq3_BadLetter xq4_BadLetter : Pos}
    {I_BadForce : Addr} {xod_BadForce xan_BadForce : Option Addr} {xsl_BadForce : Array (Option Value)} {xoc_BadForce xdc_BadForce xpm_BadForce xcd_BadForce xct_BadForce : Value} {xp1_BadForce xp2_BadForce xq1_BadForce xq2_BadForce xq3_BadForce xq4_BadForce : Pos}
    {I_TooStrong : Addr} {xod_TooStrong xan_TooStrong : Option Addr} {xsl_TooStrong : Array (Option Value)} {xoc_TooStrong xdc_TooStrong xpm_TooStrong xcd_TooStrong xct_TooStrong : Value} {xp1_TooStrong xp2_TooStrong xq1_TooStrong xq2_TooStrong xq3_TooStrong xq4_TooStrong : Pos}
    {I_Rejected : Addr} {xod_Rejected xan_Rejected : Option Addr} {xsl_Rejected : Array (Option Value)} {xoc_Rejected xdc_Rejected xpm_Rejected xcd_Rejected xct_Rejected : Value} {xp1_Rejected xp2_Rejected xq1_Rejected xq2_Rejected xq3_Rejected xq4_Rejected : Pos}
    {I_BadText : Addr} {xod_BadText xan_BadText : Option Addr} {xsl_BadText : Array (Option Value)} {xoc_BadText xdc_BadText xpm_BadText xcd_BadText xct_BadText : Value} {xp1_BadText xp2_BadText xq1_BadText xq2_BadText xq3_BadText xq4_BadText : Pos}
    {I_NoSheet : Addr} {xod_NoSheet xan_NoSheet : Option Addr} {xsl_NoSheet : Array (Option Value)} {xoc_NoSheet xdc_NoSheet xpm_NoSheet xcd_NoSheet xct_NoSheet : Value} {xp1_NoSheet xp2_NoSheet xq1_NoSheet xq2_NoSheet xq3_NoSheet xq4_NoSheet : Pos}
    {I_NoPlace : Addr} {xod_NoPlace xan_NoPlace : Option Addr} {xsl_NoPlace : Array (Option Value)} {xoc_NoPlace xdc_NoPlace xpm_NoPlace xcd_NoPlace xct_NoPlace : Value} {xp1_NoPlace xp2_NoPlace xq1_NoPlace xq2_NoPlace xq3_NoPlace xq4_NoPlace : Pos}
    {I_NoIndex : Addr} {xod_NoIndex xan_NoIndex : Option Addr} {xsl_NoIndex : Array (Option Value)} {xoc_NoIndex xdc_NoIndex xpm_NoIndex xcd_NoIndex xct_NoIndex : Value} {xp1_NoIndex xp2_NoIndex xq1_NoIndex xq2_NoIndex xq3_NoIndex xq4_NoIndex : Pos}
    {I_NoVersion : Addr} {xod_NoVersion xan_NoVersion : Option Addr} {xsl_NoVersion : Array (Option Value)} {xoc_NoVersion xdc_NoVersion xpm_NoVersion xcd_NoVersion xct_NoVersion : Value} {xp1_NoVersion xp2_NoVersion xq1_NoVersion xq2_NoVersion xq3_NoVersion xq4_NoVersion : Pos}
    (a0 : PySem.W.nsIn K mainGlobals "_law_deck" = some (some (.ref f0))) (l0 : K.lookup f0 = some ⟨oc0, od0, .func (PySem.W.fnOf "_law_deck" "_law_deck" (defArgs s_law_deck) (defBody s_law_deck) (defScope s_law_deck) .none kV0 dc0 pm0 an0 cd0 ct0), sl0⟩) (c0 : PySem.W.codeIn K cd0 "_law_deck" = true) (k0 : PySem.W.keepIn K (.ref f0) = true)
    (a1 : PySem.W.nsIn K mainGlobals "_law_draw" = some (some (.ref f1))) (l1 : K.lookup f1 = some ⟨oc1, od1, .func (PySem.W.fnOf "_law_draw" "_law_draw" (defArgs s_law_draw) (defBody s_law_draw) (defScope s_law_draw) .none kV1 dc1 pm1 an1 cd1 ct1), sl1⟩) (c1 : PySem.W.codeIn K cd1 "_law_draw" = true) (k1 : PySem.W.keepIn K (.ref f1) = true)
    (a2 : PySem.W.nsIn K mainGlobals "_law_odd" = some (some (.ref f2))) (l2 : K.lookup f2 = some ⟨oc2, od2, .func (PySem.W.fnOf "_law_odd" "_law_odd" (defArgs s_lawA_odd) (defBody s_lawA_odd) (defScope s_lawA_odd) .none kV2 dc2 pm2 an2 cd2 ct2), sl2⟩) (c2 : PySem.W.codeIn K cd2 "_law_odd" = true) (k2 : PySem.W.keepIn K (.ref f2) = true)
    (a3 : PySem.W.nsIn K mainGlobals "_law_same" = some (some (.ref f3))) (l3 : K.lookup f3 = some ⟨oc3, od3, .func (PySem.W.fnOf "_law_same" "_law_same" (defArgs s_lawA_same) (defBody s_lawA_same) (defScope s_lawA_same) .none kV3 dc3 pm3 an3 cd3 ct3), sl3⟩) (c3 : PySem.W.codeIn K cd3 "_law_same" = true) (k3 : PySem.W.keepIn K (.ref f3) = true)
    (a4 : PySem.W.nsIn K mainGlobals "_law_flags_of" = some (some (.ref f4))) (l4 : K.lookup f4 = some ⟨oc4, od4, .func (PySem.W.fnOf "_law_flags_of" "_law_flags_of" (defArgs s_law_flags_of) (defBody s_law_flags_of) (defScope s_law_flags_of) .none kV4 dc4 pm4 an4 cd4 ct4), sl4⟩) (c4 : PySem.W.codeIn K cd4 "_law_flags_of" = true) (k4 : PySem.W.keepIn K (.ref f4) = true)
    (a5 : PySem.W.nsIn K mainGlobals "_law_errors" = some (some (.ref f5))) (l5 : K.lookup f5 = some ⟨oc5, od5, .func (PySem.W.fnOf "_law_errors" "_law_errors" (defArgs s_law_errors) (defBody s_law_errors) (defScope s_law_errors) .none kV5 dc5 pm5 an5 cd5 ct5), sl5⟩) (c5 : PySem.W.codeIn K cd5 "_law_errors" = true) (k5 : PySem.W.keepIn K (.ref f5) = true)
    (a6 : PySem.W.nsIn K mainGlobals "_law_fields" = some (some (.ref f6))) (l6 : K.lookup f6 = some ⟨oc6, od6, .func (PySem.W.fnOf "_law_fields" "_law_fields" (defArgs s_law_fields) (defBody s_law_fields) (defScope s_law_fields) .none kV6 dc6 pm6 an6 cd6 ct6), sl6⟩) (c6 : PySem.W.codeIn K cd6 "_law_fields" = true) (k6 : PySem.W.keepIn K (.ref f6) = true)
    (a7 : PySem.W.nsIn K mainGlobals "law" = some (some (.ref f7))) (l7 : K.lookup f7 = some ⟨oc7, od7, .func (PySem.W.fnOf "law" "law" (defArgs s_law) (defBody s_law) (defScope s_law) .none kV7 dc7 pm7 an7 cd7 ct7), sl7⟩) (c7 : PySem.W.codeIn K cd7 "law" = true) (k7 : PySem.W.keepIn K (.ref f7) = true)
    (z_LookupError : PySem.W.nsIn K mainGlobals "LookupError" = some none)
    (z_ValueError : PySem.W.nsIn K mainGlobals "ValueError" = some none)
    (z_abs : PySem.W.nsIn K mainGlobals "abs" = some none)
    (z_isinstance : PySem.W.nsIn K mainGlobals "isinstance" = some none)
    (z_len : PySem.W.nsIn K mainGlobals "len" = some none)
    (z_range : PySem.W.nsIn K mainGlobals "range" = some none)
    (z_repr : PySem.W.nsIn K mainGlobals "repr" = some none)
    (y_BATCH : PySem.W.nsIn K mainGlobals "BATCH" = some (some (.int 20 t_BATCH)))
    (y_HISTORY : PySem.W.nsIn K mainGlobals "HISTORY" = some (some (.int 20 t_HISTORY)))
    (y_MAX_BLOCK : PySem.W.nsIn K mainGlobals "MAX_BLOCK" = some (some (.int 12 t_MAX_BLOCK)))
    (y_MAX_SHEETS : PySem.W.nsIn K mainGlobals "MAX_SHEETS" = some (some (.int 8 t_MAX_SHEETS)))
    (y_MAX_TIMES : PySem.W.nsIn K mainGlobals "MAX_TIMES" = some (some (.int 1000000000000 t_MAX_TIMES)))
    (y_MAX_WORD : PySem.W.nsIn K mainGlobals "MAX_WORD" = some (some (.int 30 t_MAX_WORD)))
    (ka_BadBatch : PySem.W.nsIn K mainGlobals "BadBatch" = some (some (.ref A_BadBatch))) (kt_BadBatch : PySem.W.typeIn K (.ref A_BadBatch) = some (.type "type")) (kh_BadBatch : PySem.W.hasDictIn K A_BadBatch = true) (ke_BadBatch : PySem.W.subIn K (.ref A_BadBatch) (.type "BaseException") = some true)
    (ka_BadForce : PySem.W.nsIn K mainGlobals "BadForce" = some (some (.ref A_BadForce))) (kt_BadForce : PySem.W.typeIn K (.ref A_BadForce) = some (.type "type")) (kh_BadForce : PySem.W.hasDictIn K A_BadForce = true) (ke_BadForce : PySem.W.subIn K (.ref A_BadForce) (.type "BaseException") = some true)
    (ka_BadLetter : PySem.W.nsIn K mainGlobals "BadLetter" = some (some (.ref A_BadLetter))) (kt_BadLetter : PySem.W.typeIn K (.ref A_BadLetter) = some (.type "type")) (kh_BadLetter : PySem.W.hasDictIn K A_BadLetter = true) (ke_BadLetter : PySem.W.subIn K (.ref A_BadLetter) (.type "BaseException") = some true)
    (ka_BadNumber : PySem.W.nsIn K mainGlobals "BadNumber" = some (some (.ref A_BadNumber))) (kt_BadNumber : PySem.W.typeIn K (.ref A_BadNumber) = some (.type "type")) (kh_BadNumber : PySem.W.hasDictIn K A_BadNumber = true) (ke_BadNumber : PySem.W.subIn K (.ref A_BadNumber) (.type "BaseException") = some true)
    (ka_BadOrder : PySem.W.nsIn K mainGlobals "BadOrder" = some (some (.ref A_BadOrder))) (kt_BadOrder : PySem.W.typeIn K (.ref A_BadOrder) = some (.type "type")) (kh_BadOrder : PySem.W.hasDictIn K A_BadOrder = true) (ke_BadOrder : PySem.W.subIn K (.ref A_BadOrder) (.type "BaseException") = some true)
    (ka_BadSheet : PySem.W.nsIn K mainGlobals "BadSheet" = some (some (.ref A_BadSheet))) (kt_BadSheet : PySem.W.typeIn K (.ref A_BadSheet) = some (.type "type")) (kh_BadSheet : PySem.W.hasDictIn K A_BadSheet = true) (ke_BadSheet : PySem.W.subIn K (.ref A_BadSheet) (.type "BaseException") = some true)
    (ka_BadSheets : PySem.W.nsIn K mainGlobals "BadSheets" = some (some (.ref A_BadSheets))) (kt_BadSheets : PySem.W.typeIn K (.ref A_BadSheets) = some (.type "type")) (kh_BadSheets : PySem.W.hasDictIn K A_BadSheets = true) (ke_BadSheets : PySem.W.subIn K (.ref A_BadSheets) (.type "BaseException") = some true)
    (ka_BadText : PySem.W.nsIn K mainGlobals "BadText" = some (some (.ref A_BadText))) (kt_BadText : PySem.W.typeIn K (.ref A_BadText) = some (.type "type")) (kh_BadText : PySem.W.hasDictIn K A_BadText = true) (ke_BadText : PySem.W.subIn K (.ref A_BadText) (.type "BaseException") = some true)
    (ka_BadWord : PySem.W.nsIn K mainGlobals "BadWord" = some (some (.ref A_BadWord))) (kt_BadWord : PySem.W.typeIn K (.ref A_BadWord) = some (.type "type")) (kh_BadWord : PySem.W.hasDictIn K A_BadWord = true) (ke_BadWord : PySem.W.subIn K (.ref A_BadWord) (.type "BaseException") = some true)
    (ka_Busy : PySem.W.nsIn K mainGlobals "Busy" = some (some (.ref A_Busy))) (kt_Busy : PySem.W.typeIn K (.ref A_Busy) = some (.type "type")) (kh_Busy : PySem.W.hasDictIn K A_Busy = true) (ke_Busy : PySem.W.subIn K (.ref A_Busy) (.type "BaseException") = some true)
    (ka_LastSheet : PySem.W.nsIn K mainGlobals "LastSheet" = some (some (.ref A_LastSheet))) (kt_LastSheet : PySem.W.typeIn K (.ref A_LastSheet) = some (.type "type")) (kh_LastSheet : PySem.W.hasDictIn K A_LastSheet = true) (ke_LastSheet : PySem.W.subIn K (.ref A_LastSheet) (.type "BaseException") = some true)
    (ka_NoIndex : PySem.W.nsIn K mainGlobals "NoIndex" = some (some (.ref A_NoIndex))) (kt_NoIndex : PySem.W.typeIn K (.ref A_NoIndex) = some (.type "type")) (kh_NoIndex : PySem.W.hasDictIn K A_NoIndex = true) (ke_NoIndex : PySem.W.subIn K (.ref A_NoIndex) (.type "BaseException") = some true)
    (ka_NoPlace : PySem.W.nsIn K mainGlobals "NoPlace" = some (some (.ref A_NoPlace))) (kt_NoPlace : PySem.W.typeIn K (.ref A_NoPlace) = some (.type "type")) (kh_NoPlace : PySem.W.hasDictIn K A_NoPlace = true) (ke_NoPlace : PySem.W.subIn K (.ref A_NoPlace) (.type "BaseException") = some true)
    (ka_NoSheet : PySem.W.nsIn K mainGlobals "NoSheet" = some (some (.ref A_NoSheet))) (kt_NoSheet : PySem.W.typeIn K (.ref A_NoSheet) = some (.type "type")) (kh_NoSheet : PySem.W.hasDictIn K A_NoSheet = true) (ke_NoSheet : PySem.W.subIn K (.ref A_NoSheet) (.type "BaseException") = some true)
    (ka_NoVersion : PySem.W.nsIn K mainGlobals "NoVersion" = some (some (.ref A_NoVersion))) (kt_NoVersion : PySem.W.typeIn K (.ref A_NoVersion) = some (.type "type")) (kh_NoVersion : PySem.W.hasDictIn K A_NoVersion = true) (ke_NoVersion : PySem.W.subIn K (.ref A_NoVersion) (.type "BaseException") = some true)
    (ka_NoWords : PySem.W.nsIn K mainGlobals "NoWords" = some (some (.ref A_NoWords))) (kt_NoWords : PySem.W.typeIn K (.ref A_NoWords) = some (.type "type")) (kh_NoWords : PySem.W.hasDictIn K A_NoWords = true) (ke_NoWords : PySem.W.subIn K (.ref A_NoWords) (.type "BaseException") = some true)
    (ka_NothingToUndo : PySem.W.nsIn K mainGlobals "NothingToUndo" = some (some (.ref A_NothingToUndo))) (kt_NothingToUndo : PySem.W.typeIn K (.ref A_NothingToUndo) = some (.type "type")) (kh_NothingToUndo : PySem.W.hasDictIn K A_NothingToUndo = true) (ke_NothingToUndo : PySem.W.subIn K (.ref A_NothingToUndo) (.type "BaseException") = some true)
    (ka_PadError : PySem.W.nsIn K mainGlobals "PadError" = some (some (.ref A_PadError))) (kt_PadError : PySem.W.typeIn K (.ref A_PadError) = some (.type "type")) (kh_PadError : PySem.W.hasDictIn K A_PadError = true) (ke_PadError : PySem.W.subIn K (.ref A_PadError) (.type "BaseException") = some true)
    (ka_Rejected : PySem.W.nsIn K mainGlobals "Rejected" = some (some (.ref A_Rejected))) (kt_Rejected : PySem.W.typeIn K (.ref A_Rejected) = some (.type "type")) (kh_Rejected : PySem.W.hasDictIn K A_Rejected = true) (ke_Rejected : PySem.W.subIn K (.ref A_Rejected) (.type "BaseException") = some true)
    (ka_TooLong : PySem.W.nsIn K mainGlobals "TooLong" = some (some (.ref A_TooLong))) (kt_TooLong : PySem.W.typeIn K (.ref A_TooLong) = some (.type "type")) (kh_TooLong : PySem.W.hasDictIn K A_TooLong = true) (ke_TooLong : PySem.W.subIn K (.ref A_TooLong) (.type "BaseException") = some true)
    (ka_TooManyEdits : PySem.W.nsIn K mainGlobals "TooManyEdits" = some (some (.ref A_TooManyEdits))) (kt_TooManyEdits : PySem.W.typeIn K (.ref A_TooManyEdits) = some (.type "type")) (kh_TooManyEdits : PySem.W.hasDictIn K A_TooManyEdits = true) (ke_TooManyEdits : PySem.W.subIn K (.ref A_TooManyEdits) (.type "BaseException") = some true)
    (ka_TooStrong : PySem.W.nsIn K mainGlobals "TooStrong" = some (some (.ref A_TooStrong))) (kt_TooStrong : PySem.W.typeIn K (.ref A_TooStrong) = some (.type "type")) (kh_TooStrong : PySem.W.hasDictIn K A_TooStrong = true) (ke_TooStrong : PySem.W.subIn K (.ref A_TooStrong) (.type "BaseException") = some true)
    (kk_BadNumber : PySem.W.keepIn K (.ref A_BadNumber) = true) (kg_BadNumber : PySem.W.findIn K (.ref A_BadNumber) "__getattribute__" = some (some (.builtin "BaseException.__getattribute__"))) (kj_BadNumber : PySem.W.findIn K (.ref A_BadNumber) "__getattr__" = some none) (kc_BadNumber : PySem.W.findIn K (.ref A_BadNumber) "__class__" = some (some (.builtin "object.__class__"))) (km_BadNumber : PySem.W.mroIn K A_BadNumber (.type "object") = some true) (kz_BadNumber : PySem.W.subIn K (.ref A_BadNumber) (.ref A_BadNumber) = some true)
    (ks_BadNumber : PySem.W.findIn K (.ref A_BadNumber) "__setattr__" = some (some (.builtin "object.__setattr__"))) (ki_BadNumber : PySem.W.findIn K (.ref A_BadNumber) "__init__" = some (some (.ref I_BadNumber))) (kf_BadNumber : PySem.W.typeIn K (.ref I_BadNumber) = some (.type "function")) (kn_BadNumber : PySem.W.findIn K (.ref A_BadNumber) "value" = some none)
    (kl_BadNumber : K.lookup I_BadNumber = some ⟨xoc_BadNumber, xod_BadNumber, .func (PySem.W.fnOf "__init__" "BadNumber.__init__" (iA "value" xp1_BadNumber xp2_BadNumber) (iB "value" xq1_BadNumber xq2_BadNumber xq3_BadNumber xq4_BadNumber) (iS "value") .none .none xdc_BadNumber xpm_BadNumber xan_BadNumber xcd_BadNumber xct_BadNumber), xsl_BadNumber⟩) (kd_BadNumber : PySem.W.codeIn K xcd_BadNumber "BadNumber.__init__" = true)
    (kq_BadNumber : PySem.W.excInitIn K A_BadNumber [.type "ValueError", .type "Exception", .type "BaseException", .type "object"] "ValueError.__new__" = true) (ko_BadNumber : PySem.W.excOver K A_BadNumber [.type "ValueError", .type "Exception", .type "BaseException", .type "object"] = true)
    (kk_BadOrder : PySem.W.keepIn K (.ref A_BadOrder) = true) (kg_BadOrder : PySem.W.findIn K (.ref A_BadOrder) "__getattribute__" = some (some (.builtin "BaseException.__getattribute__"))) (kj_BadOrder : PySem.W.findIn K (.ref A_BadOrder) "__getattr__" = some none) (kc_BadOrder : PySem.W.findIn K (.ref A_BadOrder) "__class__" = some (some (.builtin "object.__class__"))) (km_BadOrder : PySem.W.mroIn K A_BadOrder (.type "object") = some true) (kz_BadOrder : PySem.W.subIn K (.ref A_BadOrder) (.ref A_BadOrder) = some true)
    (ks_BadOrder : PySem.W.findIn K (.ref A_BadOrder) "__setattr__" = some (some (.builtin "object.__setattr__"))) (ki_BadOrder : PySem.W.findIn K (.ref A_BadOrder) "__init__" = some (some (.ref I_BadOrder))) (kf_BadOrder : PySem.W.typeIn K (.ref I_BadOrder) = some (.type "function")) (kn_BadOrder : PySem.W.findIn K (.ref A_BadOrder) "value" = some none)
    (kl_BadOrder : K.lookup I_BadOrder = some ⟨xoc_BadOrder, xod_BadOrder, .func (PySem.W.fnOf "__init__" "BadOrder.__init__" (iA "value" xp1_BadOrder xp2_BadOrder) (iB "value" xq1_BadOrder xq2_BadOrder xq3_BadOrder xq4_BadOrder) (iS "value") .none .none xdc_BadOrder xpm_BadOrder xan_BadOrder xcd_BadOrder xct_BadOrder), xsl_BadOrder⟩) (kd_BadOrder : PySem.W.codeIn K xcd_BadOrder "BadOrder.__init__" = true)
    (kq_BadOrder : PySem.W.excInitIn K A_BadOrder [.type "ValueError", .type "Exception", .type "BaseException", .type "object"] "ValueError.__new__" = true) (ko_BadOrder : PySem.W.excOver K A_BadOrder [.type "ValueError", .type "Exception", .type "BaseException", .type "object"] = true)
    (kk_BadWord : PySem.W.keepIn K (.ref A_BadWord) = true) (kg_BadWord : PySem.W.findIn K (.ref A_BadWord) "__getattribute__" = some (some (.builtin "BaseException.__getattribute__"))) (kj_BadWord : PySem.W.findIn K (.ref A_BadWord) "__getattr__" = some none) (kc_BadWord : PySem.W.findIn K (.ref A_BadWord) "__class__" = some (some (.builtin "object.__class__"))) (km_BadWord : PySem.W.mroIn K A_BadWord (.type "object") = some true) (kz_BadWord : PySem.W.subIn K (.ref A_BadWord) (.ref A_BadWord) = some true)
    (ks_BadWord : PySem.W.findIn K (.ref A_BadWord) "__setattr__" = some (some (.builtin "object.__setattr__"))) (ki_BadWord : PySem.W.findIn K (.ref A_BadWord) "__init__" = some (some (.ref I_BadWord))) (kf_BadWord : PySem.W.typeIn K (.ref I_BadWord) = some (.type "function")) (kn_BadWord : PySem.W.findIn K (.ref A_BadWord) "value" = some none)
    (kl_BadWord : K.lookup I_BadWord = some ⟨xoc_BadWord, xod_BadWord, .func (PySem.W.fnOf "__init__" "BadWord.__init__" (iA "value" xp1_BadWord xp2_BadWord) (iB "value" xq1_BadWord xq2_BadWord xq3_BadWord xq4_BadWord) (iS "value") .none .none xdc_BadWord xpm_BadWord xan_BadWord xcd_BadWord xct_BadWord), xsl_BadWord⟩) (kd_BadWord : PySem.W.codeIn K xcd_BadWord "BadWord.__init__" = true)
    (kq_BadWord : PySem.W.excInitIn K A_BadWord [.type "ValueError", .type "Exception", .type "BaseException", .type "object"] "ValueError.__new__" = true) (ko_BadWord : PySem.W.excOver K A_BadWord [.type "ValueError", .type "Exception", .type "BaseException", .type "object"] = true)
    (kk_TooLong : PySem.W.keepIn K (.ref A_TooLong) = true) (kg_TooLong : PySem.W.findIn K (.ref A_TooLong) "__getattribute__" = some (some (.builtin "BaseException.__getattribute__"))) (kj_TooLong : PySem.W.findIn K (.ref A_TooLong) "__getattr__" = some none) (kc_TooLong : PySem.W.findIn K (.ref A_TooLong) "__class__" = some (some (.builtin "object.__class__"))) (km_TooLong : PySem.W.mroIn K A_TooLong (.type "object") = some true) (kz_TooLong : PySem.W.subIn K (.ref A_TooLong) (.ref A_TooLong) = some true)
    (ks_TooLong : PySem.W.findIn K (.ref A_TooLong) "__setattr__" = some (some (.builtin "object.__setattr__"))) (ki_TooLong : PySem.W.findIn K (.ref A_TooLong) "__init__" = some (some (.ref I_TooLong))) (kf_TooLong : PySem.W.typeIn K (.ref I_TooLong) = some (.type "function")) (kn_TooLong : PySem.W.findIn K (.ref A_TooLong) "limit" = some none)
    (kl_TooLong : K.lookup I_TooLong = some ⟨xoc_TooLong, xod_TooLong, .func (PySem.W.fnOf "__init__" "TooLong.__init__" (iA "limit" xp1_TooLong xp2_TooLong) (iB "limit" xq1_TooLong xq2_TooLong xq3_TooLong xq4_TooLong) (iS "limit") .none .none xdc_TooLong xpm_TooLong xan_TooLong xcd_TooLong xct_TooLong), xsl_TooLong⟩) (kd_TooLong : PySem.W.codeIn K xcd_TooLong "TooLong.__init__" = true)
    (kq_TooLong : PySem.W.excInitIn K A_TooLong [.type "ValueError", .type "Exception", .type "BaseException", .type "object"] "ValueError.__new__" = true) (ko_TooLong : PySem.W.excOver K A_TooLong [.type "ValueError", .type "Exception", .type "BaseException", .type "object"] = true)
    (kk_BadSheet : PySem.W.keepIn K (.ref A_BadSheet) = true) (kg_BadSheet : PySem.W.findIn K (.ref A_BadSheet) "__getattribute__" = some (some (.builtin "BaseException.__getattribute__"))) (kj_BadSheet : PySem.W.findIn K (.ref A_BadSheet) "__getattr__" = some none) (kc_BadSheet : PySem.W.findIn K (.ref A_BadSheet) "__class__" = some (some (.builtin "object.__class__"))) (km_BadSheet : PySem.W.mroIn K A_BadSheet (.type "object") = some true) (kz_BadSheet : PySem.W.subIn K (.ref A_BadSheet) (.ref A_BadSheet) = some true)
    (ks_BadSheet : PySem.W.findIn K (.ref A_BadSheet) "__setattr__" = some (some (.builtin "object.__setattr__"))) (ki_BadSheet : PySem.W.findIn K (.ref A_BadSheet) "__init__" = some (some (.ref I_BadSheet))) (kf_BadSheet : PySem.W.typeIn K (.ref I_BadSheet) = some (.type "function")) (kn_BadSheet : PySem.W.findIn K (.ref A_BadSheet) "index" = some none)
    (kl_BadSheet : K.lookup I_BadSheet = some ⟨xoc_BadSheet, xod_BadSheet, .func (PySem.W.fnOf "__init__" "BadSheet.__init__" (iA "index" xp1_BadSheet xp2_BadSheet) (iB "index" xq1_BadSheet xq2_BadSheet xq3_BadSheet xq4_BadSheet) (iS "index") .none .none xdc_BadSheet xpm_BadSheet xan_BadSheet xcd_BadSheet xct_BadSheet), xsl_BadSheet⟩) (kd_BadSheet : PySem.W.codeIn K xcd_BadSheet "BadSheet.__init__" = true)
    (kq_BadSheet : PySem.W.excInitIn K A_BadSheet [.type "ValueError", .type "Exception", .type "BaseException", .type "object"] "ValueError.__new__" = true) (ko_BadSheet : PySem.W.excOver K A_BadSheet [.type "ValueError", .type "Exception", .type "BaseException", .type "object"] = true)
    (kk_BadSheets : PySem.W.keepIn K (.ref A_BadSheets) = true) (kg_BadSheets : PySem.W.findIn K (.ref A_BadSheets) "__getattribute__" = some (some (.builtin "BaseException.__getattribute__"))) (kj_BadSheets : PySem.W.findIn K (.ref A_BadSheets) "__getattr__" = some none) (kc_BadSheets : PySem.W.findIn K (.ref A_BadSheets) "__class__" = some (some (.builtin "object.__class__"))) (km_BadSheets : PySem.W.mroIn K A_BadSheets (.type "object") = some true) (kz_BadSheets : PySem.W.subIn K (.ref A_BadSheets) (.ref A_BadSheets) = some true)
    (ks_BadSheets : PySem.W.findIn K (.ref A_BadSheets) "__setattr__" = some (some (.builtin "object.__setattr__"))) (ki_BadSheets : PySem.W.findIn K (.ref A_BadSheets) "__init__" = some (some (.ref I_BadSheets))) (kf_BadSheets : PySem.W.typeIn K (.ref I_BadSheets) = some (.type "function")) (kn_BadSheets : PySem.W.findIn K (.ref A_BadSheets) "error" = some none)
    (kl_BadSheets : K.lookup I_BadSheets = some ⟨xoc_BadSheets, xod_BadSheets, .func (PySem.W.fnOf "__init__" "BadSheets.__init__" (iA "error" xp1_BadSheets xp2_BadSheets) (iB "error" xq1_BadSheets xq2_BadSheets xq3_BadSheets xq4_BadSheets) (iS "error") .none .none xdc_BadSheets xpm_BadSheets xan_BadSheets xcd_BadSheets xct_BadSheets), xsl_BadSheets⟩) (kd_BadSheets : PySem.W.codeIn K xcd_BadSheets "BadSheets.__init__" = true)
    (kq_BadSheets : PySem.W.excInitIn K A_BadSheets [.type "ValueError", .type "Exception", .type "BaseException", .type "object"] "ValueError.__new__" = true) (ko_BadSheets : PySem.W.excOver K A_BadSheets [.type "ValueError", .type "Exception", .type "BaseException", .type "object"] = true)
    (kk_BadLetter : PySem.W.keepIn K (.ref A_BadLetter) = true) (kg_BadLetter : PySem.W.findIn K (.ref A_BadLetter) "__getattribute__" = some (some (.builtin "BaseException.__getattribute__"))) (kj_BadLetter : PySem.W.findIn K (.ref A_BadLetter) "__getattr__" = some none) (kc_BadLetter : PySem.W.findIn K (.ref A_BadLetter) "__class__" = some (some (.builtin "object.__class__"))) (km_BadLetter : PySem.W.mroIn K A_BadLetter (.type "object") = some true) (kz_BadLetter : PySem.W.subIn K (.ref A_BadLetter) (.ref A_BadLetter) = some true)
    (ks_BadLetter : PySem.W.findIn K (.ref A_BadLetter) "__setattr__" = some (some (.builtin "object.__setattr__"))) (ki_BadLetter : PySem.W.findIn K (.ref A_BadLetter) "__init__" = some (some (.ref I_BadLetter))) (kf_BadLetter : PySem.W.typeIn K (.ref I_BadLetter) = some (.type "function")) (kn_BadLetter : PySem.W.findIn K (.ref A_BadLetter) "value" = some none)
    (kl_BadLetter : K.lookup I_BadLetter = some ⟨xoc_BadLetter, xod_BadLetter, .func (PySem.W.fnOf "__init__" "BadLetter.__init__" (iA "value" xp1_BadLetter xp2_BadLetter) (iB "value" xq1_BadLetter xq2_BadLetter xq3_BadLetter xq4_BadLetter) (iS "value") .none .none xdc_BadLetter xpm_BadLetter xan_BadLetter xcd_BadLetter xct_BadLetter), xsl_BadLetter⟩) (kd_BadLetter : PySem.W.codeIn K xcd_BadLetter "BadLetter.__init__" = true)
    (kq_BadLetter : PySem.W.excInitIn K A_BadLetter [.type "ValueError", .type "Exception", .type "BaseException", .type "object"] "ValueError.__new__" = true) (ko_BadLetter : PySem.W.excOver K A_BadLetter [.type "ValueError", .type "Exception", .type "BaseException", .type "object"] = true)
    (kk_BadForce : PySem.W.keepIn K (.ref A_BadForce) = true) (kg_BadForce : PySem.W.findIn K (.ref A_BadForce) "__getattribute__" = some (some (.builtin "BaseException.__getattribute__"))) (kj_BadForce : PySem.W.findIn K (.ref A_BadForce) "__getattr__" = some none) (kc_BadForce : PySem.W.findIn K (.ref A_BadForce) "__class__" = some (some (.builtin "object.__class__"))) (km_BadForce : PySem.W.mroIn K A_BadForce (.type "object") = some true) (kz_BadForce : PySem.W.subIn K (.ref A_BadForce) (.ref A_BadForce) = some true)
    (ks_BadForce : PySem.W.findIn K (.ref A_BadForce) "__setattr__" = some (some (.builtin "object.__setattr__"))) (ki_BadForce : PySem.W.findIn K (.ref A_BadForce) "__init__" = some (some (.ref I_BadForce))) (kf_BadForce : PySem.W.typeIn K (.ref I_BadForce) = some (.type "function")) (kn_BadForce : PySem.W.findIn K (.ref A_BadForce) "value" = some none)
    (kl_BadForce : K.lookup I_BadForce = some ⟨xoc_BadForce, xod_BadForce, .func (PySem.W.fnOf "__init__" "BadForce.__init__" (iA "value" xp1_BadForce xp2_BadForce) (iB "value" xq1_BadForce xq2_BadForce xq3_BadForce xq4_BadForce) (iS "value") .none .none xdc_BadForce xpm_BadForce xan_BadForce xcd_BadForce xct_BadForce), xsl_BadForce⟩) (kd_BadForce : PySem.W.codeIn K xcd_BadForce "BadForce.__init__" = true)
    (kq_BadForce : PySem.W.excInitIn K A_BadForce [.type "ValueError", .type "Exception", .type "BaseException", .type "object"] "ValueError.__new__" = true) (ko_BadForce : PySem.W.excOver K A_BadForce [.type "ValueError", .type "Exception", .type "BaseException", .type "object"] = true)
    (kk_TooStrong : PySem.W.keepIn K (.ref A_TooStrong) = true) (kg_TooStrong : PySem.W.findIn K (.ref A_TooStrong) "__getattribute__" = some (some (.builtin "BaseException.__getattribute__"))) (kj_TooStrong : PySem.W.findIn K (.ref A_TooStrong) "__getattr__" = some none) (kc_TooStrong : PySem.W.findIn K (.ref A_TooStrong) "__class__" = some (some (.builtin "object.__class__"))) (km_TooStrong : PySem.W.mroIn K A_TooStrong (.type "object") = some true) (kz_TooStrong : PySem.W.subIn K (.ref A_TooStrong) (.ref A_TooStrong) = some true)
    (ks_TooStrong : PySem.W.findIn K (.ref A_TooStrong) "__setattr__" = some (some (.builtin "object.__setattr__"))) (ki_TooStrong : PySem.W.findIn K (.ref A_TooStrong) "__init__" = some (some (.ref I_TooStrong))) (kf_TooStrong : PySem.W.typeIn K (.ref I_TooStrong) = some (.type "function")) (kn_TooStrong : PySem.W.findIn K (.ref A_TooStrong) "limit" = some none)
    (kl_TooStrong : K.lookup I_TooStrong = some ⟨xoc_TooStrong, xod_TooStrong, .func (PySem.W.fnOf "__init__" "TooStrong.__init__" (iA "limit" xp1_TooStrong xp2_TooStrong) (iB "limit" xq1_TooStrong xq2_TooStrong xq3_TooStrong xq4_TooStrong) (iS "limit") .none .none xdc_TooStrong xpm_TooStrong xan_TooStrong xcd_TooStrong xct_TooStrong), xsl_TooStrong⟩) (kd_TooStrong : PySem.W.codeIn K xcd_TooStrong "TooStrong.__init__" = true)
    (kq_TooStrong : PySem.W.excInitIn K A_TooStrong [.type "ValueError", .type "Exception", .type "BaseException", .type "object"] "ValueError.__new__" = true) (ko_TooStrong : PySem.W.excOver K A_TooStrong [.type "ValueError", .type "Exception", .type "BaseException", .type "object"] = true)
    (kk_Rejected : PySem.W.keepIn K (.ref A_Rejected) = true) (kg_Rejected : PySem.W.findIn K (.ref A_Rejected) "__getattribute__" = some (some (.builtin "BaseException.__getattribute__"))) (kj_Rejected : PySem.W.findIn K (.ref A_Rejected) "__getattr__" = some none) (kc_Rejected : PySem.W.findIn K (.ref A_Rejected) "__class__" = some (some (.builtin "object.__class__"))) (km_Rejected : PySem.W.mroIn K A_Rejected (.type "object") = some true) (kz_Rejected : PySem.W.subIn K (.ref A_Rejected) (.ref A_Rejected) = some true)
    (ks_Rejected : PySem.W.findIn K (.ref A_Rejected) "__setattr__" = some (some (.builtin "object.__setattr__"))) (ki_Rejected : PySem.W.findIn K (.ref A_Rejected) "__init__" = some (some (.ref I_Rejected))) (kf_Rejected : PySem.W.typeIn K (.ref I_Rejected) = some (.type "function")) (kn_Rejected : PySem.W.findIn K (.ref A_Rejected) "index" = some none)
    (kl_Rejected : K.lookup I_Rejected = some ⟨xoc_Rejected, xod_Rejected, .func (PySem.W.fnOf "__init__" "Rejected.__init__" (iA "index" xp1_Rejected xp2_Rejected) (iB "index" xq1_Rejected xq2_Rejected xq3_Rejected xq4_Rejected) (iS "index") .none .none xdc_Rejected xpm_Rejected xan_Rejected xcd_Rejected xct_Rejected), xsl_Rejected⟩) (kd_Rejected : PySem.W.codeIn K xcd_Rejected "Rejected.__init__" = true)
    (kq_Rejected : PySem.W.excInitIn K A_Rejected [.type "ValueError", .type "Exception", .type "BaseException", .type "object"] "ValueError.__new__" = true) (ko_Rejected : PySem.W.excOver K A_Rejected [.type "ValueError", .type "Exception", .type "BaseException", .type "object"] = true)
    (kk_BadText : PySem.W.keepIn K (.ref A_BadText) = true) (kg_BadText : PySem.W.findIn K (.ref A_BadText) "__getattribute__" = some (some (.builtin "BaseException.__getattribute__"))) (kj_BadText : PySem.W.findIn K (.ref A_BadText) "__getattr__" = some none) (kc_BadText : PySem.W.findIn K (.ref A_BadText) "__class__" = some (some (.builtin "object.__class__"))) (km_BadText : PySem.W.mroIn K A_BadText (.type "object") = some true) (kz_BadText : PySem.W.subIn K (.ref A_BadText) (.ref A_BadText) = some true)
    (ks_BadText : PySem.W.findIn K (.ref A_BadText) "__setattr__" = some (some (.builtin "object.__setattr__"))) (ki_BadText : PySem.W.findIn K (.ref A_BadText) "__init__" = some (some (.ref I_BadText))) (kf_BadText : PySem.W.typeIn K (.ref I_BadText) = some (.type "function")) (kn_BadText : PySem.W.findIn K (.ref A_BadText) "index" = some none)
    (kl_BadText : K.lookup I_BadText = some ⟨xoc_BadText, xod_BadText, .func (PySem.W.fnOf "__init__" "BadText.__init__" (iA "index" xp1_BadText xp2_BadText) (iB "index" xq1_BadText xq2_BadText xq3_BadText xq4_BadText) (iS "index") .none .none xdc_BadText xpm_BadText xan_BadText xcd_BadText xct_BadText), xsl_BadText⟩) (kd_BadText : PySem.W.codeIn K xcd_BadText "BadText.__init__" = true)
    (kq_BadText : PySem.W.excInitIn K A_BadText [.type "ValueError", .type "Exception", .type "BaseException", .type "object"] "ValueError.__new__" = true) (ko_BadText : PySem.W.excOver K A_BadText [.type "ValueError", .type "Exception", .type "BaseException", .type "object"] = true)
    (kk_NoWords : PySem.W.keepIn K (.ref A_NoWords) = true) (kg_NoWords : PySem.W.findIn K (.ref A_NoWords) "__getattribute__" = some (some (.builtin "BaseException.__getattribute__"))) (kj_NoWords : PySem.W.findIn K (.ref A_NoWords) "__getattr__" = some none) (kc_NoWords : PySem.W.findIn K (.ref A_NoWords) "__class__" = some (some (.builtin "object.__class__"))) (km_NoWords : PySem.W.mroIn K A_NoWords (.type "object") = some true) (kz_NoWords : PySem.W.subIn K (.ref A_NoWords) (.ref A_NoWords) = some true)
    (kx_NoWords : PySem.W.excIn K A_NoWords [.type "ValueError", .type "Exception", .type "BaseException", .type "object"] "ValueError.__new__" = true)
    (kk_LastSheet : PySem.W.keepIn K (.ref A_LastSheet) = true) (kg_LastSheet : PySem.W.findIn K (.ref A_LastSheet) "__getattribute__" = some (some (.builtin "BaseException.__getattribute__"))) (kj_LastSheet : PySem.W.findIn K (.ref A_LastSheet) "__getattr__" = some none) (kc_LastSheet : PySem.W.findIn K (.ref A_LastSheet) "__class__" = some (some (.builtin "object.__class__"))) (km_LastSheet : PySem.W.mroIn K A_LastSheet (.type "object") = some true) (kz_LastSheet : PySem.W.subIn K (.ref A_LastSheet) (.ref A_LastSheet) = some true)
    (kx_LastSheet : PySem.W.excIn K A_LastSheet [.type "ValueError", .type "Exception", .type "BaseException", .type "object"] "ValueError.__new__" = true)
    (kk_Busy : PySem.W.keepIn K (.ref A_Busy) = true) (kg_Busy : PySem.W.findIn K (.ref A_Busy) "__getattribute__" = some (some (.builtin "BaseException.__getattribute__"))) (kj_Busy : PySem.W.findIn K (.ref A_Busy) "__getattr__" = some none) (kc_Busy : PySem.W.findIn K (.ref A_Busy) "__class__" = some (some (.builtin "object.__class__"))) (km_Busy : PySem.W.mroIn K A_Busy (.type "object") = some true) (kz_Busy : PySem.W.subIn K (.ref A_Busy) (.ref A_Busy) = some true)
    (kx_Busy : PySem.W.excIn K A_Busy [.type "ValueError", .type "Exception", .type "BaseException", .type "object"] "ValueError.__new__" = true)
    (kk_TooManyEdits : PySem.W.keepIn K (.ref A_TooManyEdits) = true) (kg_TooManyEdits : PySem.W.findIn K (.ref A_TooManyEdits) "__getattribute__" = some (some (.builtin "BaseException.__getattribute__"))) (kj_TooManyEdits : PySem.W.findIn K (.ref A_TooManyEdits) "__getattr__" = some none) (kc_TooManyEdits : PySem.W.findIn K (.ref A_TooManyEdits) "__class__" = some (some (.builtin "object.__class__"))) (km_TooManyEdits : PySem.W.mroIn K A_TooManyEdits (.type "object") = some true) (kz_TooManyEdits : PySem.W.subIn K (.ref A_TooManyEdits) (.ref A_TooManyEdits) = some true)
    (kx_TooManyEdits : PySem.W.excIn K A_TooManyEdits [.type "ValueError", .type "Exception", .type "BaseException", .type "object"] "ValueError.__new__" = true)
    (kk_NothingToUndo : PySem.W.keepIn K (.ref A_NothingToUndo) = true) (kg_NothingToUndo : PySem.W.findIn K (.ref A_NothingToUndo) "__getattribute__" = some (some (.builtin "BaseException.__getattribute__"))) (kj_NothingToUndo : PySem.W.findIn K (.ref A_NothingToUndo) "__getattr__" = some none) (kc_NothingToUndo : PySem.W.findIn K (.ref A_NothingToUndo) "__class__" = some (some (.builtin "object.__class__"))) (km_NothingToUndo : PySem.W.mroIn K A_NothingToUndo (.type "object") = some true) (kz_NothingToUndo : PySem.W.subIn K (.ref A_NothingToUndo) (.ref A_NothingToUndo) = some true)
    (kx_NothingToUndo : PySem.W.excIn K A_NothingToUndo [.type "ValueError", .type "Exception", .type "BaseException", .type "object"] "ValueError.__new__" = true)
    (kk_BadBatch : PySem.W.keepIn K (.ref A_BadBatch) = true) (kg_BadBatch : PySem.W.findIn K (.ref A_BadBatch) "__getattribute__" = some (some (.builtin "BaseException.__getattribute__"))) (kj_BadBatch : PySem.W.findIn K (.ref A_BadBatch) "__getattr__" = some none) (kc_BadBatch : PySem.W.findIn K (.ref A_BadBatch) "__class__" = some (some (.builtin "object.__class__"))) (km_BadBatch : PySem.W.mroIn K A_BadBatch (.type "object") = some true) (kz_BadBatch : PySem.W.subIn K (.ref A_BadBatch) (.ref A_BadBatch) = some true)
    (kx_BadBatch : PySem.W.excIn K A_BadBatch [.type "ValueError", .type "Exception", .type "BaseException", .type "object"] "ValueError.__new__" = true)
    (kk_NoSheet : PySem.W.keepIn K (.ref A_NoSheet) = true) (kg_NoSheet : PySem.W.findIn K (.ref A_NoSheet) "__getattribute__" = some (some (.builtin "BaseException.__getattribute__"))) (kj_NoSheet : PySem.W.findIn K (.ref A_NoSheet) "__getattr__" = some none) (kc_NoSheet : PySem.W.findIn K (.ref A_NoSheet) "__class__" = some (some (.builtin "object.__class__"))) (km_NoSheet : PySem.W.mroIn K A_NoSheet (.type "object") = some true) (kz_NoSheet : PySem.W.subIn K (.ref A_NoSheet) (.ref A_NoSheet) = some true)
    (ks_NoSheet : PySem.W.findIn K (.ref A_NoSheet) "__setattr__" = some (some (.builtin "object.__setattr__"))) (ki_NoSheet : PySem.W.findIn K (.ref A_NoSheet) "__init__" = some (some (.ref I_NoSheet))) (kf_NoSheet : PySem.W.typeIn K (.ref I_NoSheet) = some (.type "function")) (kn_NoSheet : PySem.W.findIn K (.ref A_NoSheet) "value" = some none)
    (kl_NoSheet : K.lookup I_NoSheet = some ⟨xoc_NoSheet, xod_NoSheet, .func (PySem.W.fnOf "__init__" "NoSheet.__init__" (iA "value" xp1_NoSheet xp2_NoSheet) (iB "value" xq1_NoSheet xq2_NoSheet xq3_NoSheet xq4_NoSheet) (iS "value") .none .none xdc_NoSheet xpm_NoSheet xan_NoSheet xcd_NoSheet xct_NoSheet), xsl_NoSheet⟩) (kd_NoSheet : PySem.W.codeIn K xcd_NoSheet "NoSheet.__init__" = true)
    (kq_NoSheet : PySem.W.excInitIn K A_NoSheet [.type "LookupError", .type "Exception", .type "BaseException", .type "object"] "LookupError.__new__" = true) (ko_NoSheet : PySem.W.excOver K A_NoSheet [.type "LookupError", .type "Exception", .type "BaseException", .type "object"] = true)
    (kk_NoPlace : PySem.W.keepIn K (.ref A_NoPlace) = true) (kg_NoPlace : PySem.W.findIn K (.ref A_NoPlace) "__getattribute__" = some (some (.builtin "BaseException.__getattribute__"))) (kj_NoPlace : PySem.W.findIn K (.ref A_NoPlace) "__getattr__" = some none) (kc_NoPlace : PySem.W.findIn K (.ref A_NoPlace) "__class__" = some (some (.builtin "object.__class__"))) (km_NoPlace : PySem.W.mroIn K A_NoPlace (.type "object") = some true) (kz_NoPlace : PySem.W.subIn K (.ref A_NoPlace) (.ref A_NoPlace) = some true)
    (ks_NoPlace : PySem.W.findIn K (.ref A_NoPlace) "__setattr__" = some (some (.builtin "object.__setattr__"))) (ki_NoPlace : PySem.W.findIn K (.ref A_NoPlace) "__init__" = some (some (.ref I_NoPlace))) (kf_NoPlace : PySem.W.typeIn K (.ref I_NoPlace) = some (.type "function")) (kn_NoPlace : PySem.W.findIn K (.ref A_NoPlace) "value" = some none)
    (kl_NoPlace : K.lookup I_NoPlace = some ⟨xoc_NoPlace, xod_NoPlace, .func (PySem.W.fnOf "__init__" "NoPlace.__init__" (iA "value" xp1_NoPlace xp2_NoPlace) (iB "value" xq1_NoPlace xq2_NoPlace xq3_NoPlace xq4_NoPlace) (iS "value") .none .none xdc_NoPlace xpm_NoPlace xan_NoPlace xcd_NoPlace xct_NoPlace), xsl_NoPlace⟩) (kd_NoPlace : PySem.W.codeIn K xcd_NoPlace "NoPlace.__init__" = true)
    (kq_NoPlace : PySem.W.excInitIn K A_NoPlace [.type "LookupError", .type "Exception", .type "BaseException", .type "object"] "LookupError.__new__" = true) (ko_NoPlace : PySem.W.excOver K A_NoPlace [.type "LookupError", .type "Exception", .type "BaseException", .type "object"] = true)
    (kk_NoIndex : PySem.W.keepIn K (.ref A_NoIndex) = true) (kg_NoIndex : PySem.W.findIn K (.ref A_NoIndex) "__getattribute__" = some (some (.builtin "BaseException.__getattribute__"))) (kj_NoIndex : PySem.W.findIn K (.ref A_NoIndex) "__getattr__" = some none) (kc_NoIndex : PySem.W.findIn K (.ref A_NoIndex) "__class__" = some (some (.builtin "object.__class__"))) (km_NoIndex : PySem.W.mroIn K A_NoIndex (.type "object") = some true) (kz_NoIndex : PySem.W.subIn K (.ref A_NoIndex) (.ref A_NoIndex) = some true)
    (ks_NoIndex : PySem.W.findIn K (.ref A_NoIndex) "__setattr__" = some (some (.builtin "object.__setattr__"))) (ki_NoIndex : PySem.W.findIn K (.ref A_NoIndex) "__init__" = some (some (.ref I_NoIndex))) (kf_NoIndex : PySem.W.typeIn K (.ref I_NoIndex) = some (.type "function")) (kn_NoIndex : PySem.W.findIn K (.ref A_NoIndex) "index" = some none)
    (kl_NoIndex : K.lookup I_NoIndex = some ⟨xoc_NoIndex, xod_NoIndex, .func (PySem.W.fnOf "__init__" "NoIndex.__init__" (iA "index" xp1_NoIndex xp2_NoIndex) (iB "index" xq1_NoIndex xq2_NoIndex xq3_NoIndex xq4_NoIndex) (iS "index") .none .none xdc_NoIndex xpm_NoIndex xan_NoIndex xcd_NoIndex xct_NoIndex), xsl_NoIndex⟩) (kd_NoIndex : PySem.W.codeIn K xcd_NoIndex "NoIndex.__init__" = true)
    (kq_NoIndex : PySem.W.excInitIn K A_NoIndex [.type "LookupError", .type "Exception", .type "BaseException", .type "object"] "LookupError.__new__" = true) (ko_NoIndex : PySem.W.excOver K A_NoIndex [.type "LookupError", .type "Exception", .type "BaseException", .type "object"] = true)
    (kk_NoVersion : PySem.W.keepIn K (.ref A_NoVersion) = true) (kg_NoVersion : PySem.W.findIn K (.ref A_NoVersion) "__getattribute__" = some (some (.builtin "BaseException.__getattribute__"))) (kj_NoVersion : PySem.W.findIn K (.ref A_NoVersion) "__getattr__" = some none) (kc_NoVersion : PySem.W.findIn K (.ref A_NoVersion) "__class__" = some (some (.builtin "object.__class__"))) (km_NoVersion : PySem.W.mroIn K A_NoVersion (.type "object") = some true) (kz_NoVersion : PySem.W.subIn K (.ref A_NoVersion) (.ref A_NoVersion) = some true)
    (ks_NoVersion : PySem.W.findIn K (.ref A_NoVersion) "__setattr__" = some (some (.builtin "object.__setattr__"))) (ki_NoVersion : PySem.W.findIn K (.ref A_NoVersion) "__init__" = some (some (.ref I_NoVersion))) (kf_NoVersion : PySem.W.typeIn K (.ref I_NoVersion) = some (.type "function")) (kn_NoVersion : PySem.W.findIn K (.ref A_NoVersion) "value" = some none)
    (kl_NoVersion : K.lookup I_NoVersion = some ⟨xoc_NoVersion, xod_NoVersion, .func (PySem.W.fnOf "__init__" "NoVersion.__init__" (iA "value" xp1_NoVersion xp2_NoVersion) (iB "value" xq1_NoVersion xq2_NoVersion xq3_NoVersion xq4_NoVersion) (iS "value") .none .none xdc_NoVersion xpm_NoVersion xan_NoVersion xcd_NoVersion xct_NoVersion), xsl_NoVersion⟩) (kd_NoVersion : PySem.W.codeIn K xcd_NoVersion "NoVersion.__init__" = true)
    (kq_NoVersion : PySem.W.excInitIn K A_NoVersion [.type "LookupError", .type "Exception", .type "BaseException", .type "object"] "LookupError.__new__" = true) (ko_NoVersion : PySem.W.excOver K A_NoVersion [.type "LookupError", .type "Exception", .type "BaseException", .type "object"] = true)
    (kp_BadNumber_BadBatch : PySem.W.subIn K (.ref A_BadNumber) (.ref A_BadBatch) = some false)
    (kp_BadNumber_BadForce : PySem.W.subIn K (.ref A_BadNumber) (.ref A_BadForce) = some false)
    (kp_BadNumber_BadLetter : PySem.W.subIn K (.ref A_BadNumber) (.ref A_BadLetter) = some false)
    (kp_BadNumber_BadOrder : PySem.W.subIn K (.ref A_BadNumber) (.ref A_BadOrder) = some false)
    (kp_BadNumber_BadSheet : PySem.W.subIn K (.ref A_BadNumber) (.ref A_BadSheet) = some false)
    (kp_BadNumber_BadSheets : PySem.W.subIn K (.ref A_BadNumber) (.ref A_BadSheets) = some false)
    (kp_BadNumber_BadText : PySem.W.subIn K (.ref A_BadNumber) (.ref A_BadText) = some false)
    (kp_BadNumber_BadWord : PySem.W.subIn K (.ref A_BadNumber) (.ref A_BadWord) = some false)
    (kp_BadNumber_Busy : PySem.W.subIn K (.ref A_BadNumber) (.ref A_Busy) = some false)
    (kp_BadNumber_LastSheet : PySem.W.subIn K (.ref A_BadNumber) (.ref A_LastSheet) = some false)
    (kp_BadNumber_NoIndex : PySem.W.subIn K (.ref A_BadNumber) (.ref A_NoIndex) = some false)
    (kp_BadNumber_NoPlace : PySem.W.subIn K (.ref A_BadNumber) (.ref A_NoPlace) = some false)
    (kp_BadNumber_NoSheet : PySem.W.subIn K (.ref A_BadNumber) (.ref A_NoSheet) = some false)
    (kp_BadNumber_NoVersion : PySem.W.subIn K (.ref A_BadNumber) (.ref A_NoVersion) = some false)
    (kp_BadNumber_NoWords : PySem.W.subIn K (.ref A_BadNumber) (.ref A_NoWords) = some false)
    (kp_BadNumber_NothingToUndo : PySem.W.subIn K (.ref A_BadNumber) (.ref A_NothingToUndo) = some false)
    (kp_BadNumber_PadError : PySem.W.subIn K (.ref A_BadNumber) (.ref A_PadError) = some true)
    (kp_BadNumber_Rejected : PySem.W.subIn K (.ref A_BadNumber) (.ref A_Rejected) = some false)
    (kp_BadNumber_TooLong : PySem.W.subIn K (.ref A_BadNumber) (.ref A_TooLong) = some false)
    (kp_BadNumber_TooManyEdits : PySem.W.subIn K (.ref A_BadNumber) (.ref A_TooManyEdits) = some false)
    (kp_BadNumber_TooStrong : PySem.W.subIn K (.ref A_BadNumber) (.ref A_TooStrong) = some false)
    (kp_BadOrder_BadBatch : PySem.W.subIn K (.ref A_BadOrder) (.ref A_BadBatch) = some false)
    (kp_BadOrder_BadForce : PySem.W.subIn K (.ref A_BadOrder) (.ref A_BadForce) = some false)
    (kp_BadOrder_BadLetter : PySem.W.subIn K (.ref A_BadOrder) (.ref A_BadLetter) = some false)
    (kp_BadOrder_BadNumber : PySem.W.subIn K (.ref A_BadOrder) (.ref A_BadNumber) = some false)
    (kp_BadOrder_BadSheet : PySem.W.subIn K (.ref A_BadOrder) (.ref A_BadSheet) = some false)
    (kp_BadOrder_BadSheets : PySem.W.subIn K (.ref A_BadOrder) (.ref A_BadSheets) = some false)
    (kp_BadOrder_BadText : PySem.W.subIn K (.ref A_BadOrder) (.ref A_BadText) = some false)
    (kp_BadOrder_BadWord : PySem.W.subIn K (.ref A_BadOrder) (.ref A_BadWord) = some false)
    (kp_BadOrder_Busy : PySem.W.subIn K (.ref A_BadOrder) (.ref A_Busy) = some false)
    (kp_BadOrder_LastSheet : PySem.W.subIn K (.ref A_BadOrder) (.ref A_LastSheet) = some false)
    (kp_BadOrder_NoIndex : PySem.W.subIn K (.ref A_BadOrder) (.ref A_NoIndex) = some false)
    (kp_BadOrder_NoPlace : PySem.W.subIn K (.ref A_BadOrder) (.ref A_NoPlace) = some false)
    (kp_BadOrder_NoSheet : PySem.W.subIn K (.ref A_BadOrder) (.ref A_NoSheet) = some false)
    (kp_BadOrder_NoVersion : PySem.W.subIn K (.ref A_BadOrder) (.ref A_NoVersion) = some false)
    (kp_BadOrder_NoWords : PySem.W.subIn K (.ref A_BadOrder) (.ref A_NoWords) = some false)
    (kp_BadOrder_NothingToUndo : PySem.W.subIn K (.ref A_BadOrder) (.ref A_NothingToUndo) = some false)
    (kp_BadOrder_PadError : PySem.W.subIn K (.ref A_BadOrder) (.ref A_PadError) = some true)
    (kp_BadOrder_Rejected : PySem.W.subIn K (.ref A_BadOrder) (.ref A_Rejected) = some false)
    (kp_BadOrder_TooLong : PySem.W.subIn K (.ref A_BadOrder) (.ref A_TooLong) = some false)
    (kp_BadOrder_TooManyEdits : PySem.W.subIn K (.ref A_BadOrder) (.ref A_TooManyEdits) = some false)
    (kp_BadOrder_TooStrong : PySem.W.subIn K (.ref A_BadOrder) (.ref A_TooStrong) = some false)
    (kp_BadWord_BadBatch : PySem.W.subIn K (.ref A_BadWord) (.ref A_BadBatch) = some false)
    (kp_BadWord_BadForce : PySem.W.subIn K (.ref A_BadWord) (.ref A_BadForce) = some false)
    (kp_BadWord_BadLetter : PySem.W.subIn K (.ref A_BadWord) (.ref A_BadLetter) = some false)
    (kp_BadWord_BadNumber : PySem.W.subIn K (.ref A_BadWord) (.ref A_BadNumber) = some false)
    (kp_BadWord_BadOrder : PySem.W.subIn K (.ref A_BadWord) (.ref A_BadOrder) = some false)
    (kp_BadWord_BadSheet : PySem.W.subIn K (.ref A_BadWord) (.ref A_BadSheet) = some false)
    (kp_BadWord_BadSheets : PySem.W.subIn K (.ref A_BadWord) (.ref A_BadSheets) = some false)
    (kp_BadWord_BadText : PySem.W.subIn K (.ref A_BadWord) (.ref A_BadText) = some false)
    (kp_BadWord_Busy : PySem.W.subIn K (.ref A_BadWord) (.ref A_Busy) = some false)
    (kp_BadWord_LastSheet : PySem.W.subIn K (.ref A_BadWord) (.ref A_LastSheet) = some false)
    (kp_BadWord_NoIndex : PySem.W.subIn K (.ref A_BadWord) (.ref A_NoIndex) = some false)
    (kp_BadWord_NoPlace : PySem.W.subIn K (.ref A_BadWord) (.ref A_NoPlace) = some false)
    (kp_BadWord_NoSheet : PySem.W.subIn K (.ref A_BadWord) (.ref A_NoSheet) = some false)
    (kp_BadWord_NoVersion : PySem.W.subIn K (.ref A_BadWord) (.ref A_NoVersion) = some false)
    (kp_BadWord_NoWords : PySem.W.subIn K (.ref A_BadWord) (.ref A_NoWords) = some false)
    (kp_BadWord_NothingToUndo : PySem.W.subIn K (.ref A_BadWord) (.ref A_NothingToUndo) = some false)
    (kp_BadWord_PadError : PySem.W.subIn K (.ref A_BadWord) (.ref A_PadError) = some true)
    (kp_BadWord_Rejected : PySem.W.subIn K (.ref A_BadWord) (.ref A_Rejected) = some false)
    (kp_BadWord_TooLong : PySem.W.subIn K (.ref A_BadWord) (.ref A_TooLong) = some false)
    (kp_BadWord_TooManyEdits : PySem.W.subIn K (.ref A_BadWord) (.ref A_TooManyEdits) = some false)
    (kp_BadWord_TooStrong : PySem.W.subIn K (.ref A_BadWord) (.ref A_TooStrong) = some false)
    (kp_TooLong_BadBatch : PySem.W.subIn K (.ref A_TooLong) (.ref A_BadBatch) = some false)
    (kp_TooLong_BadForce : PySem.W.subIn K (.ref A_TooLong) (.ref A_BadForce) = some false)
    (kp_TooLong_BadLetter : PySem.W.subIn K (.ref A_TooLong) (.ref A_BadLetter) = some false)
    (kp_TooLong_BadNumber : PySem.W.subIn K (.ref A_TooLong) (.ref A_BadNumber) = some false)
    (kp_TooLong_BadOrder : PySem.W.subIn K (.ref A_TooLong) (.ref A_BadOrder) = some false)
    (kp_TooLong_BadSheet : PySem.W.subIn K (.ref A_TooLong) (.ref A_BadSheet) = some false)
    (kp_TooLong_BadSheets : PySem.W.subIn K (.ref A_TooLong) (.ref A_BadSheets) = some false)
    (kp_TooLong_BadText : PySem.W.subIn K (.ref A_TooLong) (.ref A_BadText) = some false)
    (kp_TooLong_BadWord : PySem.W.subIn K (.ref A_TooLong) (.ref A_BadWord) = some false)
    (kp_TooLong_Busy : PySem.W.subIn K (.ref A_TooLong) (.ref A_Busy) = some false)
    (kp_TooLong_LastSheet : PySem.W.subIn K (.ref A_TooLong) (.ref A_LastSheet) = some false)
    (kp_TooLong_NoIndex : PySem.W.subIn K (.ref A_TooLong) (.ref A_NoIndex) = some false)
    (kp_TooLong_NoPlace : PySem.W.subIn K (.ref A_TooLong) (.ref A_NoPlace) = some false)
    (kp_TooLong_NoSheet : PySem.W.subIn K (.ref A_TooLong) (.ref A_NoSheet) = some false)
    (kp_TooLong_NoVersion : PySem.W.subIn K (.ref A_TooLong) (.ref A_NoVersion) = some false)
    (kp_TooLong_NoWords : PySem.W.subIn K (.ref A_TooLong) (.ref A_NoWords) = some false)
    (kp_TooLong_NothingToUndo : PySem.W.subIn K (.ref A_TooLong) (.ref A_NothingToUndo) = some false)
    (kp_TooLong_PadError : PySem.W.subIn K (.ref A_TooLong) (.ref A_PadError) = some true)
    (kp_TooLong_Rejected : PySem.W.subIn K (.ref A_TooLong) (.ref A_Rejected) = some false)
    (kp_TooLong_TooManyEdits : PySem.W.subIn K (.ref A_TooLong) (.ref A_TooManyEdits) = some false)
    (kp_TooLong_TooStrong : PySem.W.subIn K (.ref A_TooLong) (.ref A_TooStrong) = some false)
    (kp_BadSheet_BadBatch : PySem.W.subIn K (.ref A_BadSheet) (.ref A_BadBatch) = some false)
    (kp_BadSheet_BadForce : PySem.W.subIn K (.ref A_BadSheet) (.ref A_BadForce) = some false)
    (kp_BadSheet_BadLetter : PySem.W.subIn K (.ref A_BadSheet) (.ref A_BadLetter) = some false)
    (kp_BadSheet_BadNumber : PySem.W.subIn K (.ref A_BadSheet) (.ref A_BadNumber) = some false)
    (kp_BadSheet_BadOrder : PySem.W.subIn K (.ref A_BadSheet) (.ref A_BadOrder) = some false)
    (kp_BadSheet_BadSheets : PySem.W.subIn K (.ref A_BadSheet) (.ref A_BadSheets) = some false)
    (kp_BadSheet_BadText : PySem.W.subIn K (.ref A_BadSheet) (.ref A_BadText) = some false)
    (kp_BadSheet_BadWord : PySem.W.subIn K (.ref A_BadSheet) (.ref A_BadWord) = some false)
    (kp_BadSheet_Busy : PySem.W.subIn K (.ref A_BadSheet) (.ref A_Busy) = some false)
    (kp_BadSheet_LastSheet : PySem.W.subIn K (.ref A_BadSheet) (.ref A_LastSheet) = some false)
    (kp_BadSheet_NoIndex : PySem.W.subIn K (.ref A_BadSheet) (.ref A_NoIndex) = some false)
    (kp_BadSheet_NoPlace : PySem.W.subIn K (.ref A_BadSheet) (.ref A_NoPlace) = some false)
    (kp_BadSheet_NoSheet : PySem.W.subIn K (.ref A_BadSheet) (.ref A_NoSheet) = some false)
    (kp_BadSheet_NoVersion : PySem.W.subIn K (.ref A_BadSheet) (.ref A_NoVersion) = some false)
    (kp_BadSheet_NoWords : PySem.W.subIn K (.ref A_BadSheet) (.ref A_NoWords) = some false)
    (kp_BadSheet_NothingToUndo : PySem.W.subIn K (.ref A_BadSheet) (.ref A_NothingToUndo) = some false)
    (kp_BadSheet_PadError : PySem.W.subIn K (.ref A_BadSheet) (.ref A_PadError) = some true)
    (kp_BadSheet_Rejected : PySem.W.subIn K (.ref A_BadSheet) (.ref A_Rejected) = some false)
    (kp_BadSheet_TooLong : PySem.W.subIn K (.ref A_BadSheet) (.ref A_TooLong) = some false)
    (kp_BadSheet_TooManyEdits : PySem.W.subIn K (.ref A_BadSheet) (.ref A_TooManyEdits) = some false)
    (kp_BadSheet_TooStrong : PySem.W.subIn K (.ref A_BadSheet) (.ref A_TooStrong) = some false)
    (kp_BadSheets_BadBatch : PySem.W.subIn K (.ref A_BadSheets) (.ref A_BadBatch) = some false)
    (kp_BadSheets_BadForce : PySem.W.subIn K (.ref A_BadSheets) (.ref A_BadForce) = some false)
    (kp_BadSheets_BadLetter : PySem.W.subIn K (.ref A_BadSheets) (.ref A_BadLetter) = some false)
    (kp_BadSheets_BadNumber : PySem.W.subIn K (.ref A_BadSheets) (.ref A_BadNumber) = some false)
    (kp_BadSheets_BadOrder : PySem.W.subIn K (.ref A_BadSheets) (.ref A_BadOrder) = some false)
    (kp_BadSheets_BadSheet : PySem.W.subIn K (.ref A_BadSheets) (.ref A_BadSheet) = some false)
    (kp_BadSheets_BadText : PySem.W.subIn K (.ref A_BadSheets) (.ref A_BadText) = some false)
    (kp_BadSheets_BadWord : PySem.W.subIn K (.ref A_BadSheets) (.ref A_BadWord) = some false)
    (kp_BadSheets_Busy : PySem.W.subIn K (.ref A_BadSheets) (.ref A_Busy) = some false)
    (kp_BadSheets_LastSheet : PySem.W.subIn K (.ref A_BadSheets) (.ref A_LastSheet) = some false)
    (kp_BadSheets_NoIndex : PySem.W.subIn K (.ref A_BadSheets) (.ref A_NoIndex) = some false)
    (kp_BadSheets_NoPlace : PySem.W.subIn K (.ref A_BadSheets) (.ref A_NoPlace) = some false)
    (kp_BadSheets_NoSheet : PySem.W.subIn K (.ref A_BadSheets) (.ref A_NoSheet) = some false)
    (kp_BadSheets_NoVersion : PySem.W.subIn K (.ref A_BadSheets) (.ref A_NoVersion) = some false)
    (kp_BadSheets_NoWords : PySem.W.subIn K (.ref A_BadSheets) (.ref A_NoWords) = some false)
    (kp_BadSheets_NothingToUndo : PySem.W.subIn K (.ref A_BadSheets) (.ref A_NothingToUndo) = some false)
    (kp_BadSheets_PadError : PySem.W.subIn K (.ref A_BadSheets) (.ref A_PadError) = some true)
    (kp_BadSheets_Rejected : PySem.W.subIn K (.ref A_BadSheets) (.ref A_Rejected) = some false)
    (kp_BadSheets_TooLong : PySem.W.subIn K (.ref A_BadSheets) (.ref A_TooLong) = some false)
    (kp_BadSheets_TooManyEdits : PySem.W.subIn K (.ref A_BadSheets) (.ref A_TooManyEdits) = some false)
    (kp_BadSheets_TooStrong : PySem.W.subIn K (.ref A_BadSheets) (.ref A_TooStrong) = some false)
    (kp_BadLetter_BadBatch : PySem.W.subIn K (.ref A_BadLetter) (.ref A_BadBatch) = some false)
    (kp_BadLetter_BadForce : PySem.W.subIn K (.ref A_BadLetter) (.ref A_BadForce) = some false)
    (kp_BadLetter_BadNumber : PySem.W.subIn K (.ref A_BadLetter) (.ref A_BadNumber) = some false)
    (kp_BadLetter_BadOrder : PySem.W.subIn K (.ref A_BadLetter) (.ref A_BadOrder) = some false)
    (kp_BadLetter_BadSheet : PySem.W.subIn K (.ref A_BadLetter) (.ref A_BadSheet) = some false)
    (kp_BadLetter_BadSheets : PySem.W.subIn K (.ref A_BadLetter) (.ref A_BadSheets) = some false)
    (kp_BadLetter_BadText : PySem.W.subIn K (.ref A_BadLetter) (.ref A_BadText) = some false)
    (kp_BadLetter_BadWord : PySem.W.subIn K (.ref A_BadLetter) (.ref A_BadWord) = some false)
    (kp_BadLetter_Busy : PySem.W.subIn K (.ref A_BadLetter) (.ref A_Busy) = some false)
    (kp_BadLetter_LastSheet : PySem.W.subIn K (.ref A_BadLetter) (.ref A_LastSheet) = some false)
    (kp_BadLetter_NoIndex : PySem.W.subIn K (.ref A_BadLetter) (.ref A_NoIndex) = some false)
    (kp_BadLetter_NoPlace : PySem.W.subIn K (.ref A_BadLetter) (.ref A_NoPlace) = some false)
    (kp_BadLetter_NoSheet : PySem.W.subIn K (.ref A_BadLetter) (.ref A_NoSheet) = some false)
    (kp_BadLetter_NoVersion : PySem.W.subIn K (.ref A_BadLetter) (.ref A_NoVersion) = some false)
    (kp_BadLetter_NoWords : PySem.W.subIn K (.ref A_BadLetter) (.ref A_NoWords) = some false)
    (kp_BadLetter_NothingToUndo : PySem.W.subIn K (.ref A_BadLetter) (.ref A_NothingToUndo) = some false)
    (kp_BadLetter_PadError : PySem.W.subIn K (.ref A_BadLetter) (.ref A_PadError) = some true)
    (kp_BadLetter_Rejected : PySem.W.subIn K (.ref A_BadLetter) (.ref A_Rejected) = some false)
    (kp_BadLetter_TooLong : PySem.W.subIn K (.ref A_BadLetter) (.ref A_TooLong) = some false)
    (kp_BadLetter_TooManyEdits : PySem.W.subIn K (.ref A_BadLetter) (.ref A_TooManyEdits) = some false)
    (kp_BadLetter_TooStrong : PySem.W.subIn K (.ref A_BadLetter) (.ref A_TooStrong) = some false)
    (kp_BadForce_BadBatch : PySem.W.subIn K (.ref A_BadForce) (.ref A_BadBatch) = some false)
    (kp_BadForce_BadLetter : PySem.W.subIn K (.ref A_BadForce) (.ref A_BadLetter) = some false)
    (kp_BadForce_BadNumber : PySem.W.subIn K (.ref A_BadForce) (.ref A_BadNumber) = some false)
    (kp_BadForce_BadOrder : PySem.W.subIn K (.ref A_BadForce) (.ref A_BadOrder) = some false)
    (kp_BadForce_BadSheet : PySem.W.subIn K (.ref A_BadForce) (.ref A_BadSheet) = some false)
    (kp_BadForce_BadSheets : PySem.W.subIn K (.ref A_BadForce) (.ref A_BadSheets) = some false)
    (kp_BadForce_BadText : PySem.W.subIn K (.ref A_BadForce) (.ref A_BadText) = some false)
    (kp_BadForce_BadWord : PySem.W.subIn K (.ref A_BadForce) (.ref A_BadWord) = some false)
    (kp_BadForce_Busy : PySem.W.subIn K (.ref A_BadForce) (.ref A_Busy) = some false)
    (kp_BadForce_LastSheet : PySem.W.subIn K (.ref A_BadForce) (.ref A_LastSheet) = some false)
    (kp_BadForce_NoIndex : PySem.W.subIn K (.ref A_BadForce) (.ref A_NoIndex) = some false)
    (kp_BadForce_NoPlace : PySem.W.subIn K (.ref A_BadForce) (.ref A_NoPlace) = some false)
    (kp_BadForce_NoSheet : PySem.W.subIn K (.ref A_BadForce) (.ref A_NoSheet) = some false)
    (kp_BadForce_NoVersion : PySem.W.subIn K (.ref A_BadForce) (.ref A_NoVersion) = some false)
    (kp_BadForce_NoWords : PySem.W.subIn K (.ref A_BadForce) (.ref A_NoWords) = some false)
    (kp_BadForce_NothingToUndo : PySem.W.subIn K (.ref A_BadForce) (.ref A_NothingToUndo) = some false)
    (kp_BadForce_PadError : PySem.W.subIn K (.ref A_BadForce) (.ref A_PadError) = some true)
    (kp_BadForce_Rejected : PySem.W.subIn K (.ref A_BadForce) (.ref A_Rejected) = some false)
    (kp_BadForce_TooLong : PySem.W.subIn K (.ref A_BadForce) (.ref A_TooLong) = some false)
    (kp_BadForce_TooManyEdits : PySem.W.subIn K (.ref A_BadForce) (.ref A_TooManyEdits) = some false)
    (kp_BadForce_TooStrong : PySem.W.subIn K (.ref A_BadForce) (.ref A_TooStrong) = some false)
    (kp_TooStrong_BadBatch : PySem.W.subIn K (.ref A_TooStrong) (.ref A_BadBatch) = some false)
    (kp_TooStrong_BadForce : PySem.W.subIn K (.ref A_TooStrong) (.ref A_BadForce) = some false)
    (kp_TooStrong_BadLetter : PySem.W.subIn K (.ref A_TooStrong) (.ref A_BadLetter) = some false)
    (kp_TooStrong_BadNumber : PySem.W.subIn K (.ref A_TooStrong) (.ref A_BadNumber) = some false)
    (kp_TooStrong_BadOrder : PySem.W.subIn K (.ref A_TooStrong) (.ref A_BadOrder) = some false)
    (kp_TooStrong_BadSheet : PySem.W.subIn K (.ref A_TooStrong) (.ref A_BadSheet) = some false)
    (kp_TooStrong_BadSheets : PySem.W.subIn K (.ref A_TooStrong) (.ref A_BadSheets) = some false)
    (kp_TooStrong_BadText : PySem.W.subIn K (.ref A_TooStrong) (.ref A_BadText) = some false)
    (kp_TooStrong_BadWord : PySem.W.subIn K (.ref A_TooStrong) (.ref A_BadWord) = some false)
    (kp_TooStrong_Busy : PySem.W.subIn K (.ref A_TooStrong) (.ref A_Busy) = some false)
    (kp_TooStrong_LastSheet : PySem.W.subIn K (.ref A_TooStrong) (.ref A_LastSheet) = some false)
    (kp_TooStrong_NoIndex : PySem.W.subIn K (.ref A_TooStrong) (.ref A_NoIndex) = some false)
    (kp_TooStrong_NoPlace : PySem.W.subIn K (.ref A_TooStrong) (.ref A_NoPlace) = some false)
    (kp_TooStrong_NoSheet : PySem.W.subIn K (.ref A_TooStrong) (.ref A_NoSheet) = some false)
    (kp_TooStrong_NoVersion : PySem.W.subIn K (.ref A_TooStrong) (.ref A_NoVersion) = some false)
    (kp_TooStrong_NoWords : PySem.W.subIn K (.ref A_TooStrong) (.ref A_NoWords) = some false)
    (kp_TooStrong_NothingToUndo : PySem.W.subIn K (.ref A_TooStrong) (.ref A_NothingToUndo) = some false)
    (kp_TooStrong_PadError : PySem.W.subIn K (.ref A_TooStrong) (.ref A_PadError) = some true)
    (kp_TooStrong_Rejected : PySem.W.subIn K (.ref A_TooStrong) (.ref A_Rejected) = some false)
    (kp_TooStrong_TooLong : PySem.W.subIn K (.ref A_TooStrong) (.ref A_TooLong) = some false)
    (kp_TooStrong_TooManyEdits : PySem.W.subIn K (.ref A_TooStrong) (.ref A_TooManyEdits) = some false)
    (kp_Rejected_BadBatch : PySem.W.subIn K (.ref A_Rejected) (.ref A_BadBatch) = some false)
    (kp_Rejected_BadForce : PySem.W.subIn K (.ref A_Rejected) (.ref A_BadForce) = some false)
    (kp_Rejected_BadLetter : PySem.W.subIn K (.ref A_Rejected) (.ref A_BadLetter) = some false)
    (kp_Rejected_BadNumber : PySem.W.subIn K (.ref A_Rejected) (.ref A_BadNumber) = some false)
    (kp_Rejected_BadOrder : PySem.W.subIn K (.ref A_Rejected) (.ref A_BadOrder) = some false)
    (kp_Rejected_BadSheet : PySem.W.subIn K (.ref A_Rejected) (.ref A_BadSheet) = some false)
    (kp_Rejected_BadSheets : PySem.W.subIn K (.ref A_Rejected) (.ref A_BadSheets) = some false)
    (kp_Rejected_BadText : PySem.W.subIn K (.ref A_Rejected) (.ref A_BadText) = some false)
    (kp_Rejected_BadWord : PySem.W.subIn K (.ref A_Rejected) (.ref A_BadWord) = some false)
    (kp_Rejected_Busy : PySem.W.subIn K (.ref A_Rejected) (.ref A_Busy) = some false)
    (kp_Rejected_LastSheet : PySem.W.subIn K (.ref A_Rejected) (.ref A_LastSheet) = some false)
    (kp_Rejected_NoIndex : PySem.W.subIn K (.ref A_Rejected) (.ref A_NoIndex) = some false)
    (kp_Rejected_NoPlace : PySem.W.subIn K (.ref A_Rejected) (.ref A_NoPlace) = some false)
    (kp_Rejected_NoSheet : PySem.W.subIn K (.ref A_Rejected) (.ref A_NoSheet) = some false)
    (kp_Rejected_NoVersion : PySem.W.subIn K (.ref A_Rejected) (.ref A_NoVersion) = some false)
    (kp_Rejected_NoWords : PySem.W.subIn K (.ref A_Rejected) (.ref A_NoWords) = some false)
    (kp_Rejected_NothingToUndo : PySem.W.subIn K (.ref A_Rejected) (.ref A_NothingToUndo) = some false)
    (kp_Rejected_PadError : PySem.W.subIn K (.ref A_Rejected) (.ref A_PadError) = some true)
    (kp_Rejected_TooLong : PySem.W.subIn K (.ref A_Rejected) (.ref A_TooLong) = some false)
    (kp_Rejected_TooManyEdits : PySem.W.subIn K (.ref A_Rejected) (.ref A_TooManyEdits) = some false)
    (kp_Rejected_TooStrong : PySem.W.subIn K (.ref A_Rejected) (.ref A_TooStrong) = some false)
    (kp_BadText_BadBatch : PySem.W.subIn K (.ref A_BadText) (.ref A_BadBatch) = some false)
    (kp_BadText_BadForce : PySem.W.subIn K (.ref A_BadText) (.ref A_BadForce) = some false)
    (kp_BadText_BadLetter : PySem.W.subIn K (.ref A_BadText) (.ref A_BadLetter) = some false)
    (kp_BadText_BadNumber : PySem.W.subIn K (.ref A_BadText) (.ref A_BadNumber) = some false)
    (kp_BadText_BadOrder : PySem.W.subIn K (.ref A_BadText) (.ref A_BadOrder) = some false)
    (kp_BadText_BadSheet : PySem.W.subIn K (.ref A_BadText) (.ref A_BadSheet) = some false)
    (kp_BadText_BadSheets : PySem.W.subIn K (.ref A_BadText) (.ref A_BadSheets) = some false)
    (kp_BadText_BadWord : PySem.W.subIn K (.ref A_BadText) (.ref A_BadWord) = some false)
    (kp_BadText_Busy : PySem.W.subIn K (.ref A_BadText) (.ref A_Busy) = some false)
    (kp_BadText_LastSheet : PySem.W.subIn K (.ref A_BadText) (.ref A_LastSheet) = some false)
    (kp_BadText_NoIndex : PySem.W.subIn K (.ref A_BadText) (.ref A_NoIndex) = some false)
    (kp_BadText_NoPlace : PySem.W.subIn K (.ref A_BadText) (.ref A_NoPlace) = some false)
    (kp_BadText_NoSheet : PySem.W.subIn K (.ref A_BadText) (.ref A_NoSheet) = some false)
    (kp_BadText_NoVersion : PySem.W.subIn K (.ref A_BadText) (.ref A_NoVersion) = some false)
    (kp_BadText_NoWords : PySem.W.subIn K (.ref A_BadText) (.ref A_NoWords) = some false)
    (kp_BadText_NothingToUndo : PySem.W.subIn K (.ref A_BadText) (.ref A_NothingToUndo) = some false)
    (kp_BadText_PadError : PySem.W.subIn K (.ref A_BadText) (.ref A_PadError) = some true)
    (kp_BadText_Rejected : PySem.W.subIn K (.ref A_BadText) (.ref A_Rejected) = some false)
    (kp_BadText_TooLong : PySem.W.subIn K (.ref A_BadText) (.ref A_TooLong) = some false)
    (kp_BadText_TooManyEdits : PySem.W.subIn K (.ref A_BadText) (.ref A_TooManyEdits) = some false)
    (kp_BadText_TooStrong : PySem.W.subIn K (.ref A_BadText) (.ref A_TooStrong) = some false)
    (kp_NoWords_BadBatch : PySem.W.subIn K (.ref A_NoWords) (.ref A_BadBatch) = some false)
    (kp_NoWords_BadForce : PySem.W.subIn K (.ref A_NoWords) (.ref A_BadForce) = some false)
    (kp_NoWords_BadLetter : PySem.W.subIn K (.ref A_NoWords) (.ref A_BadLetter) = some false)
    (kp_NoWords_BadNumber : PySem.W.subIn K (.ref A_NoWords) (.ref A_BadNumber) = some false)
    (kp_NoWords_BadOrder : PySem.W.subIn K (.ref A_NoWords) (.ref A_BadOrder) = some false)
    (kp_NoWords_BadSheet : PySem.W.subIn K (.ref A_NoWords) (.ref A_BadSheet) = some false)
    (kp_NoWords_BadSheets : PySem.W.subIn K (.ref A_NoWords) (.ref A_BadSheets) = some false)
    (kp_NoWords_BadText : PySem.W.subIn K (.ref A_NoWords) (.ref A_BadText) = some false)
    (kp_NoWords_BadWord : PySem.W.subIn K (.ref A_NoWords) (.ref A_BadWord) = some false)
    (kp_NoWords_Busy : PySem.W.subIn K (.ref A_NoWords) (.ref A_Busy) = some false)
    (kp_NoWords_LastSheet : PySem.W.subIn K (.ref A_NoWords) (.ref A_LastSheet) = some false)
    (kp_NoWords_NoIndex : PySem.W.subIn K (.ref A_NoWords) (.ref A_NoIndex) = some false)
    (kp_NoWords_NoPlace : PySem.W.subIn K (.ref A_NoWords) (.ref A_NoPlace) = some false)
    (kp_NoWords_NoSheet : PySem.W.subIn K (.ref A_NoWords) (.ref A_NoSheet) = some false)
    (kp_NoWords_NoVersion : PySem.W.subIn K (.ref A_NoWords) (.ref A_NoVersion) = some false)
    (kp_NoWords_NothingToUndo : PySem.W.subIn K (.ref A_NoWords) (.ref A_NothingToUndo) = some false)
    (kp_NoWords_PadError : PySem.W.subIn K (.ref A_NoWords) (.ref A_PadError) = some true)
    (kp_NoWords_Rejected : PySem.W.subIn K (.ref A_NoWords) (.ref A_Rejected) = some false)
    (kp_NoWords_TooLong : PySem.W.subIn K (.ref A_NoWords) (.ref A_TooLong) = some false)
    (kp_NoWords_TooManyEdits : PySem.W.subIn K (.ref A_NoWords) (.ref A_TooManyEdits) = some false)
    (kp_NoWords_TooStrong : PySem.W.subIn K (.ref A_NoWords) (.ref A_TooStrong) = some false)
    (kp_LastSheet_BadBatch : PySem.W.subIn K (.ref A_LastSheet) (.ref A_BadBatch) = some false)
    (kp_LastSheet_BadForce : PySem.W.subIn K (.ref A_LastSheet) (.ref A_BadForce) = some false)
    (kp_LastSheet_BadLetter : PySem.W.subIn K (.ref A_LastSheet) (.ref A_BadLetter) = some false)
    (kp_LastSheet_BadNumber : PySem.W.subIn K (.ref A_LastSheet) (.ref A_BadNumber) = some false)
    (kp_LastSheet_BadOrder : PySem.W.subIn K (.ref A_LastSheet) (.ref A_BadOrder) = some false)
    (kp_LastSheet_BadSheet : PySem.W.subIn K (.ref A_LastSheet) (.ref A_BadSheet) = some false)
    (kp_LastSheet_BadSheets : PySem.W.subIn K (.ref A_LastSheet) (.ref A_BadSheets) = some false)
    (kp_LastSheet_BadText : PySem.W.subIn K (.ref A_LastSheet) (.ref A_BadText) = some false)
    (kp_LastSheet_BadWord : PySem.W.subIn K (.ref A_LastSheet) (.ref A_BadWord) = some false)
    (kp_LastSheet_Busy : PySem.W.subIn K (.ref A_LastSheet) (.ref A_Busy) = some false)
    (kp_LastSheet_NoIndex : PySem.W.subIn K (.ref A_LastSheet) (.ref A_NoIndex) = some false)
    (kp_LastSheet_NoPlace : PySem.W.subIn K (.ref A_LastSheet) (.ref A_NoPlace) = some false)
    (kp_LastSheet_NoSheet : PySem.W.subIn K (.ref A_LastSheet) (.ref A_NoSheet) = some false)
    (kp_LastSheet_NoVersion : PySem.W.subIn K (.ref A_LastSheet) (.ref A_NoVersion) = some false)
    (kp_LastSheet_NoWords : PySem.W.subIn K (.ref A_LastSheet) (.ref A_NoWords) = some false)
    (kp_LastSheet_NothingToUndo : PySem.W.subIn K (.ref A_LastSheet) (.ref A_NothingToUndo) = some false)
    (kp_LastSheet_PadError : PySem.W.subIn K (.ref A_LastSheet) (.ref A_PadError) = some true)
    (kp_LastSheet_Rejected : PySem.W.subIn K (.ref A_LastSheet) (.ref A_Rejected) = some false)
    (kp_LastSheet_TooLong : PySem.W.subIn K (.ref A_LastSheet) (.ref A_TooLong) = some false)
    (kp_LastSheet_TooManyEdits : PySem.W.subIn K (.ref A_LastSheet) (.ref A_TooManyEdits) = some false)
    (kp_LastSheet_TooStrong : PySem.W.subIn K (.ref A_LastSheet) (.ref A_TooStrong) = some false)
    (kp_Busy_BadBatch : PySem.W.subIn K (.ref A_Busy) (.ref A_BadBatch) = some false)
    (kp_Busy_BadForce : PySem.W.subIn K (.ref A_Busy) (.ref A_BadForce) = some false)
    (kp_Busy_BadLetter : PySem.W.subIn K (.ref A_Busy) (.ref A_BadLetter) = some false)
    (kp_Busy_BadNumber : PySem.W.subIn K (.ref A_Busy) (.ref A_BadNumber) = some false)
    (kp_Busy_BadOrder : PySem.W.subIn K (.ref A_Busy) (.ref A_BadOrder) = some false)
    (kp_Busy_BadSheet : PySem.W.subIn K (.ref A_Busy) (.ref A_BadSheet) = some false)
    (kp_Busy_BadSheets : PySem.W.subIn K (.ref A_Busy) (.ref A_BadSheets) = some false)
    (kp_Busy_BadText : PySem.W.subIn K (.ref A_Busy) (.ref A_BadText) = some false)
    (kp_Busy_BadWord : PySem.W.subIn K (.ref A_Busy) (.ref A_BadWord) = some false)
    (kp_Busy_LastSheet : PySem.W.subIn K (.ref A_Busy) (.ref A_LastSheet) = some false)
    (kp_Busy_NoIndex : PySem.W.subIn K (.ref A_Busy) (.ref A_NoIndex) = some false)
    (kp_Busy_NoPlace : PySem.W.subIn K (.ref A_Busy) (.ref A_NoPlace) = some false)
    (kp_Busy_NoSheet : PySem.W.subIn K (.ref A_Busy) (.ref A_NoSheet) = some false)
    (kp_Busy_NoVersion : PySem.W.subIn K (.ref A_Busy) (.ref A_NoVersion) = some false)
    (kp_Busy_NoWords : PySem.W.subIn K (.ref A_Busy) (.ref A_NoWords) = some false)
    (kp_Busy_NothingToUndo : PySem.W.subIn K (.ref A_Busy) (.ref A_NothingToUndo) = some false)
    (kp_Busy_PadError : PySem.W.subIn K (.ref A_Busy) (.ref A_PadError) = some true)
    (kp_Busy_Rejected : PySem.W.subIn K (.ref A_Busy) (.ref A_Rejected) = some false)
    (kp_Busy_TooLong : PySem.W.subIn K (.ref A_Busy) (.ref A_TooLong) = some false)
    (kp_Busy_TooManyEdits : PySem.W.subIn K (.ref A_Busy) (.ref A_TooManyEdits) = some false)
    (kp_Busy_TooStrong : PySem.W.subIn K (.ref A_Busy) (.ref A_TooStrong) = some false)
    (kp_TooManyEdits_BadBatch : PySem.W.subIn K (.ref A_TooManyEdits) (.ref A_BadBatch) = some false)
    (kp_TooManyEdits_BadForce : PySem.W.subIn K (.ref A_TooManyEdits) (.ref A_BadForce) = some false)
    (kp_TooManyEdits_BadLetter : PySem.W.subIn K (.ref A_TooManyEdits) (.ref A_BadLetter) = some false)
    (kp_TooManyEdits_BadNumber : PySem.W.subIn K (.ref A_TooManyEdits) (.ref A_BadNumber) = some false)
    (kp_TooManyEdits_BadOrder : PySem.W.subIn K (.ref A_TooManyEdits) (.ref A_BadOrder) = some false)
    (kp_TooManyEdits_BadSheet : PySem.W.subIn K (.ref A_TooManyEdits) (.ref A_BadSheet) = some false)
    (kp_TooManyEdits_BadSheets : PySem.W.subIn K (.ref A_TooManyEdits) (.ref A_BadSheets) = some false)
    (kp_TooManyEdits_BadText : PySem.W.subIn K (.ref A_TooManyEdits) (.ref A_BadText) = some false)
    (kp_TooManyEdits_BadWord : PySem.W.subIn K (.ref A_TooManyEdits) (.ref A_BadWord) = some false)
    (kp_TooManyEdits_Busy : PySem.W.subIn K (.ref A_TooManyEdits) (.ref A_Busy) = some false)
    (kp_TooManyEdits_LastSheet : PySem.W.subIn K (.ref A_TooManyEdits) (.ref A_LastSheet) = some false)
    (kp_TooManyEdits_NoIndex : PySem.W.subIn K (.ref A_TooManyEdits) (.ref A_NoIndex) = some false)
    (kp_TooManyEdits_NoPlace : PySem.W.subIn K (.ref A_TooManyEdits) (.ref A_NoPlace) = some false)
    (kp_TooManyEdits_NoSheet : PySem.W.subIn K (.ref A_TooManyEdits) (.ref A_NoSheet) = some false)
    (kp_TooManyEdits_NoVersion : PySem.W.subIn K (.ref A_TooManyEdits) (.ref A_NoVersion) = some false)
    (kp_TooManyEdits_NoWords : PySem.W.subIn K (.ref A_TooManyEdits) (.ref A_NoWords) = some false)
    (kp_TooManyEdits_NothingToUndo : PySem.W.subIn K (.ref A_TooManyEdits) (.ref A_NothingToUndo) = some false)
    (kp_TooManyEdits_PadError : PySem.W.subIn K (.ref A_TooManyEdits) (.ref A_PadError) = some true)
    (kp_TooManyEdits_Rejected : PySem.W.subIn K (.ref A_TooManyEdits) (.ref A_Rejected) = some false)
    (kp_TooManyEdits_TooLong : PySem.W.subIn K (.ref A_TooManyEdits) (.ref A_TooLong) = some false)
    (kp_TooManyEdits_TooStrong : PySem.W.subIn K (.ref A_TooManyEdits) (.ref A_TooStrong) = some false)
    (kp_NothingToUndo_BadBatch : PySem.W.subIn K (.ref A_NothingToUndo) (.ref A_BadBatch) = some false)
    (kp_NothingToUndo_BadForce : PySem.W.subIn K (.ref A_NothingToUndo) (.ref A_BadForce) = some false)
    (kp_NothingToUndo_BadLetter : PySem.W.subIn K (.ref A_NothingToUndo) (.ref A_BadLetter) = some false)
    (kp_NothingToUndo_BadNumber : PySem.W.subIn K (.ref A_NothingToUndo) (.ref A_BadNumber) = some false)
    (kp_NothingToUndo_BadOrder : PySem.W.subIn K (.ref A_NothingToUndo) (.ref A_BadOrder) = some false)
    (kp_NothingToUndo_BadSheet : PySem.W.subIn K (.ref A_NothingToUndo) (.ref A_BadSheet) = some false)
    (kp_NothingToUndo_BadSheets : PySem.W.subIn K (.ref A_NothingToUndo) (.ref A_BadSheets) = some false)
    (kp_NothingToUndo_BadText : PySem.W.subIn K (.ref A_NothingToUndo) (.ref A_BadText) = some false)
    (kp_NothingToUndo_BadWord : PySem.W.subIn K (.ref A_NothingToUndo) (.ref A_BadWord) = some false)
    (kp_NothingToUndo_Busy : PySem.W.subIn K (.ref A_NothingToUndo) (.ref A_Busy) = some false)
    (kp_NothingToUndo_LastSheet : PySem.W.subIn K (.ref A_NothingToUndo) (.ref A_LastSheet) = some false)
    (kp_NothingToUndo_NoIndex : PySem.W.subIn K (.ref A_NothingToUndo) (.ref A_NoIndex) = some false)
    (kp_NothingToUndo_NoPlace : PySem.W.subIn K (.ref A_NothingToUndo) (.ref A_NoPlace) = some false)
    (kp_NothingToUndo_NoSheet : PySem.W.subIn K (.ref A_NothingToUndo) (.ref A_NoSheet) = some false)
    (kp_NothingToUndo_NoVersion : PySem.W.subIn K (.ref A_NothingToUndo) (.ref A_NoVersion) = some false)
    (kp_NothingToUndo_NoWords : PySem.W.subIn K (.ref A_NothingToUndo) (.ref A_NoWords) = some false)
    (kp_NothingToUndo_PadError : PySem.W.subIn K (.ref A_NothingToUndo) (.ref A_PadError) = some true)
    (kp_NothingToUndo_Rejected : PySem.W.subIn K (.ref A_NothingToUndo) (.ref A_Rejected) = some false)
    (kp_NothingToUndo_TooLong : PySem.W.subIn K (.ref A_NothingToUndo) (.ref A_TooLong) = some false)
    (kp_NothingToUndo_TooManyEdits : PySem.W.subIn K (.ref A_NothingToUndo) (.ref A_TooManyEdits) = some false)
    (kp_NothingToUndo_TooStrong : PySem.W.subIn K (.ref A_NothingToUndo) (.ref A_TooStrong) = some false)
    (kp_BadBatch_BadForce : PySem.W.subIn K (.ref A_BadBatch) (.ref A_BadForce) = some false)
    (kp_BadBatch_BadLetter : PySem.W.subIn K (.ref A_BadBatch) (.ref A_BadLetter) = some false)
    (kp_BadBatch_BadNumber : PySem.W.subIn K (.ref A_BadBatch) (.ref A_BadNumber) = some false)
    (kp_BadBatch_BadOrder : PySem.W.subIn K (.ref A_BadBatch) (.ref A_BadOrder) = some false)
    (kp_BadBatch_BadSheet : PySem.W.subIn K (.ref A_BadBatch) (.ref A_BadSheet) = some false)
    (kp_BadBatch_BadSheets : PySem.W.subIn K (.ref A_BadBatch) (.ref A_BadSheets) = some false)
    (kp_BadBatch_BadText : PySem.W.subIn K (.ref A_BadBatch) (.ref A_BadText) = some false)
    (kp_BadBatch_BadWord : PySem.W.subIn K (.ref A_BadBatch) (.ref A_BadWord) = some false)
    (kp_BadBatch_Busy : PySem.W.subIn K (.ref A_BadBatch) (.ref A_Busy) = some false)
    (kp_BadBatch_LastSheet : PySem.W.subIn K (.ref A_BadBatch) (.ref A_LastSheet) = some false)
    (kp_BadBatch_NoIndex : PySem.W.subIn K (.ref A_BadBatch) (.ref A_NoIndex) = some false)
    (kp_BadBatch_NoPlace : PySem.W.subIn K (.ref A_BadBatch) (.ref A_NoPlace) = some false)
    (kp_BadBatch_NoSheet : PySem.W.subIn K (.ref A_BadBatch) (.ref A_NoSheet) = some false)
    (kp_BadBatch_NoVersion : PySem.W.subIn K (.ref A_BadBatch) (.ref A_NoVersion) = some false)
    (kp_BadBatch_NoWords : PySem.W.subIn K (.ref A_BadBatch) (.ref A_NoWords) = some false)
    (kp_BadBatch_NothingToUndo : PySem.W.subIn K (.ref A_BadBatch) (.ref A_NothingToUndo) = some false)
    (kp_BadBatch_PadError : PySem.W.subIn K (.ref A_BadBatch) (.ref A_PadError) = some true)
    (kp_BadBatch_Rejected : PySem.W.subIn K (.ref A_BadBatch) (.ref A_Rejected) = some false)
    (kp_BadBatch_TooLong : PySem.W.subIn K (.ref A_BadBatch) (.ref A_TooLong) = some false)
    (kp_BadBatch_TooManyEdits : PySem.W.subIn K (.ref A_BadBatch) (.ref A_TooManyEdits) = some false)
    (kp_BadBatch_TooStrong : PySem.W.subIn K (.ref A_BadBatch) (.ref A_TooStrong) = some false)
    (kp_NoSheet_BadBatch : PySem.W.subIn K (.ref A_NoSheet) (.ref A_BadBatch) = some false)
    (kp_NoSheet_BadForce : PySem.W.subIn K (.ref A_NoSheet) (.ref A_BadForce) = some false)
    (kp_NoSheet_BadLetter : PySem.W.subIn K (.ref A_NoSheet) (.ref A_BadLetter) = some false)
    (kp_NoSheet_BadNumber : PySem.W.subIn K (.ref A_NoSheet) (.ref A_BadNumber) = some false)
    (kp_NoSheet_BadOrder : PySem.W.subIn K (.ref A_NoSheet) (.ref A_BadOrder) = some false)
    (kp_NoSheet_BadSheet : PySem.W.subIn K (.ref A_NoSheet) (.ref A_BadSheet) = some false)
    (kp_NoSheet_BadSheets : PySem.W.subIn K (.ref A_NoSheet) (.ref A_BadSheets) = some false)
    (kp_NoSheet_BadText : PySem.W.subIn K (.ref A_NoSheet) (.ref A_BadText) = some false)
    (kp_NoSheet_BadWord : PySem.W.subIn K (.ref A_NoSheet) (.ref A_BadWord) = some false)
    (kp_NoSheet_Busy : PySem.W.subIn K (.ref A_NoSheet) (.ref A_Busy) = some false)
    (kp_NoSheet_LastSheet : PySem.W.subIn K (.ref A_NoSheet) (.ref A_LastSheet) = some false)
    (kp_NoSheet_NoIndex : PySem.W.subIn K (.ref A_NoSheet) (.ref A_NoIndex) = some false)
    (kp_NoSheet_NoPlace : PySem.W.subIn K (.ref A_NoSheet) (.ref A_NoPlace) = some false)
    (kp_NoSheet_NoVersion : PySem.W.subIn K (.ref A_NoSheet) (.ref A_NoVersion) = some false)
    (kp_NoSheet_NoWords : PySem.W.subIn K (.ref A_NoSheet) (.ref A_NoWords) = some false)
    (kp_NoSheet_NothingToUndo : PySem.W.subIn K (.ref A_NoSheet) (.ref A_NothingToUndo) = some false)
    (kp_NoSheet_PadError : PySem.W.subIn K (.ref A_NoSheet) (.ref A_PadError) = some false)
    (kp_NoSheet_Rejected : PySem.W.subIn K (.ref A_NoSheet) (.ref A_Rejected) = some false)
    (kp_NoSheet_TooLong : PySem.W.subIn K (.ref A_NoSheet) (.ref A_TooLong) = some false)
    (kp_NoSheet_TooManyEdits : PySem.W.subIn K (.ref A_NoSheet) (.ref A_TooManyEdits) = some false)
    (kp_NoSheet_TooStrong : PySem.W.subIn K (.ref A_NoSheet) (.ref A_TooStrong) = some false)
    (kp_NoPlace_BadBatch : PySem.W.subIn K (.ref A_NoPlace) (.ref A_BadBatch) = some false)
    (kp_NoPlace_BadForce : PySem.W.subIn K (.ref A_NoPlace) (.ref A_BadForce) = some false)
    (kp_NoPlace_BadLetter : PySem.W.subIn K (.ref A_NoPlace) (.ref A_BadLetter) = some false)
    (kp_NoPlace_BadNumber : PySem.W.subIn K (.ref A_NoPlace) (.ref A_BadNumber) = some false)
    (kp_NoPlace_BadOrder : PySem.W.subIn K (.ref A_NoPlace) (.ref A_BadOrder) = some false)
    (kp_NoPlace_BadSheet : PySem.W.subIn K (.ref A_NoPlace) (.ref A_BadSheet) = some false)
    (kp_NoPlace_BadSheets : PySem.W.subIn K (.ref A_NoPlace) (.ref A_BadSheets) = some false)
    (kp_NoPlace_BadText : PySem.W.subIn K (.ref A_NoPlace) (.ref A_BadText) = some false)
    (kp_NoPlace_BadWord : PySem.W.subIn K (.ref A_NoPlace) (.ref A_BadWord) = some false)
    (kp_NoPlace_Busy : PySem.W.subIn K (.ref A_NoPlace) (.ref A_Busy) = some false)
    (kp_NoPlace_LastSheet : PySem.W.subIn K (.ref A_NoPlace) (.ref A_LastSheet) = some false)
    (kp_NoPlace_NoIndex : PySem.W.subIn K (.ref A_NoPlace) (.ref A_NoIndex) = some false)
    (kp_NoPlace_NoSheet : PySem.W.subIn K (.ref A_NoPlace) (.ref A_NoSheet) = some false)
    (kp_NoPlace_NoVersion : PySem.W.subIn K (.ref A_NoPlace) (.ref A_NoVersion) = some false)
    (kp_NoPlace_NoWords : PySem.W.subIn K (.ref A_NoPlace) (.ref A_NoWords) = some false)
    (kp_NoPlace_NothingToUndo : PySem.W.subIn K (.ref A_NoPlace) (.ref A_NothingToUndo) = some false)
    (kp_NoPlace_PadError : PySem.W.subIn K (.ref A_NoPlace) (.ref A_PadError) = some false)
    (kp_NoPlace_Rejected : PySem.W.subIn K (.ref A_NoPlace) (.ref A_Rejected) = some false)
    (kp_NoPlace_TooLong : PySem.W.subIn K (.ref A_NoPlace) (.ref A_TooLong) = some false)
    (kp_NoPlace_TooManyEdits : PySem.W.subIn K (.ref A_NoPlace) (.ref A_TooManyEdits) = some false)
    (kp_NoPlace_TooStrong : PySem.W.subIn K (.ref A_NoPlace) (.ref A_TooStrong) = some false)
    (kp_NoIndex_BadBatch : PySem.W.subIn K (.ref A_NoIndex) (.ref A_BadBatch) = some false)
    (kp_NoIndex_BadForce : PySem.W.subIn K (.ref A_NoIndex) (.ref A_BadForce) = some false)
    (kp_NoIndex_BadLetter : PySem.W.subIn K (.ref A_NoIndex) (.ref A_BadLetter) = some false)
    (kp_NoIndex_BadNumber : PySem.W.subIn K (.ref A_NoIndex) (.ref A_BadNumber) = some false)
    (kp_NoIndex_BadOrder : PySem.W.subIn K (.ref A_NoIndex) (.ref A_BadOrder) = some false)
    (kp_NoIndex_BadSheet : PySem.W.subIn K (.ref A_NoIndex) (.ref A_BadSheet) = some false)
    (kp_NoIndex_BadSheets : PySem.W.subIn K (.ref A_NoIndex) (.ref A_BadSheets) = some false)
    (kp_NoIndex_BadText : PySem.W.subIn K (.ref A_NoIndex) (.ref A_BadText) = some false)
    (kp_NoIndex_BadWord : PySem.W.subIn K (.ref A_NoIndex) (.ref A_BadWord) = some false)
    (kp_NoIndex_Busy : PySem.W.subIn K (.ref A_NoIndex) (.ref A_Busy) = some false)
    (kp_NoIndex_LastSheet : PySem.W.subIn K (.ref A_NoIndex) (.ref A_LastSheet) = some false)
    (kp_NoIndex_NoPlace : PySem.W.subIn K (.ref A_NoIndex) (.ref A_NoPlace) = some false)
    (kp_NoIndex_NoSheet : PySem.W.subIn K (.ref A_NoIndex) (.ref A_NoSheet) = some false)
    (kp_NoIndex_NoVersion : PySem.W.subIn K (.ref A_NoIndex) (.ref A_NoVersion) = some false)
    (kp_NoIndex_NoWords : PySem.W.subIn K (.ref A_NoIndex) (.ref A_NoWords) = some false)
    (kp_NoIndex_NothingToUndo : PySem.W.subIn K (.ref A_NoIndex) (.ref A_NothingToUndo) = some false)
    (kp_NoIndex_PadError : PySem.W.subIn K (.ref A_NoIndex) (.ref A_PadError) = some false)
    (kp_NoIndex_Rejected : PySem.W.subIn K (.ref A_NoIndex) (.ref A_Rejected) = some false)
    (kp_NoIndex_TooLong : PySem.W.subIn K (.ref A_NoIndex) (.ref A_TooLong) = some false)
    (kp_NoIndex_TooManyEdits : PySem.W.subIn K (.ref A_NoIndex) (.ref A_TooManyEdits) = some false)
    (kp_NoIndex_TooStrong : PySem.W.subIn K (.ref A_NoIndex) (.ref A_TooStrong) = some false)
    (kp_NoVersion_BadBatch : PySem.W.subIn K (.ref A_NoVersion) (.ref A_BadBatch) = some false)
    (kp_NoVersion_BadForce : PySem.W.subIn K (.ref A_NoVersion) (.ref A_BadForce) = some false)
    (kp_NoVersion_BadLetter : PySem.W.subIn K (.ref A_NoVersion) (.ref A_BadLetter) = some false)
    (kp_NoVersion_BadNumber : PySem.W.subIn K (.ref A_NoVersion) (.ref A_BadNumber) = some false)
    (kp_NoVersion_BadOrder : PySem.W.subIn K (.ref A_NoVersion) (.ref A_BadOrder) = some false)
    (kp_NoVersion_BadSheet : PySem.W.subIn K (.ref A_NoVersion) (.ref A_BadSheet) = some false)
    (kp_NoVersion_BadSheets : PySem.W.subIn K (.ref A_NoVersion) (.ref A_BadSheets) = some false)
    (kp_NoVersion_BadText : PySem.W.subIn K (.ref A_NoVersion) (.ref A_BadText) = some false)
    (kp_NoVersion_BadWord : PySem.W.subIn K (.ref A_NoVersion) (.ref A_BadWord) = some false)
    (kp_NoVersion_Busy : PySem.W.subIn K (.ref A_NoVersion) (.ref A_Busy) = some false)
    (kp_NoVersion_LastSheet : PySem.W.subIn K (.ref A_NoVersion) (.ref A_LastSheet) = some false)
    (kp_NoVersion_NoIndex : PySem.W.subIn K (.ref A_NoVersion) (.ref A_NoIndex) = some false)
    (kp_NoVersion_NoPlace : PySem.W.subIn K (.ref A_NoVersion) (.ref A_NoPlace) = some false)
    (kp_NoVersion_NoSheet : PySem.W.subIn K (.ref A_NoVersion) (.ref A_NoSheet) = some false)
    (kp_NoVersion_NoWords : PySem.W.subIn K (.ref A_NoVersion) (.ref A_NoWords) = some false)
    (kp_NoVersion_NothingToUndo : PySem.W.subIn K (.ref A_NoVersion) (.ref A_NothingToUndo) = some false)
    (kp_NoVersion_PadError : PySem.W.subIn K (.ref A_NoVersion) (.ref A_PadError) = some false)
    (kp_NoVersion_Rejected : PySem.W.subIn K (.ref A_NoVersion) (.ref A_Rejected) = some false)
    (kp_NoVersion_TooLong : PySem.W.subIn K (.ref A_NoVersion) (.ref A_TooLong) = some false)
    (kp_NoVersion_TooManyEdits : PySem.W.subIn K (.ref A_NoVersion) (.ref A_TooManyEdits) = some false)
    (kp_NoVersion_TooStrong : PySem.W.subIn K (.ref A_NoVersion) (.ref A_TooStrong) = some false)
    (kp_BadNumber_LookupError : PySem.W.subIn K (.ref A_BadNumber) (.type "LookupError") = some false)
    (kp_BadNumber_ValueError : PySem.W.subIn K (.ref A_BadNumber) (.type "ValueError") = some true)
    (kp_BadOrder_LookupError : PySem.W.subIn K (.ref A_BadOrder) (.type "LookupError") = some false)
    (kp_BadOrder_ValueError : PySem.W.subIn K (.ref A_BadOrder) (.type "ValueError") = some true)
    (kp_BadWord_LookupError : PySem.W.subIn K (.ref A_BadWord) (.type "LookupError") = some false)
    (kp_BadWord_ValueError : PySem.W.subIn K (.ref A_BadWord) (.type "ValueError") = some true)
    (kp_TooLong_LookupError : PySem.W.subIn K (.ref A_TooLong) (.type "LookupError") = some false)
    (kp_TooLong_ValueError : PySem.W.subIn K (.ref A_TooLong) (.type "ValueError") = some true)
    (kp_BadSheet_LookupError : PySem.W.subIn K (.ref A_BadSheet) (.type "LookupError") = some false)
    (kp_BadSheet_ValueError : PySem.W.subIn K (.ref A_BadSheet) (.type "ValueError") = some true)
    (kp_BadSheets_LookupError : PySem.W.subIn K (.ref A_BadSheets) (.type "LookupError") = some false)
    (kp_BadSheets_ValueError : PySem.W.subIn K (.ref A_BadSheets) (.type "ValueError") = some true)
    (kp_BadLetter_LookupError : PySem.W.subIn K (.ref A_BadLetter) (.type "LookupError") = some false)
    (kp_BadLetter_ValueError : PySem.W.subIn K (.ref A_BadLetter) (.type "ValueError") = some true)
    (kp_BadForce_LookupError : PySem.W.subIn K (.ref A_BadForce) (.type "LookupError") = some false)
    (kp_BadForce_ValueError : PySem.W.subIn K (.ref A_BadForce) (.type "ValueError") = some true)
    (kp_TooStrong_LookupError : PySem.W.subIn K (.ref A_TooStrong) (.type "LookupError") = some false)
    (kp_TooStrong_ValueError : PySem.W.subIn K (.ref A_TooStrong) (.type "ValueError") = some true)
    (kp_Rejected_LookupError : PySem.W.subIn K (.ref A_Rejected) (.type "LookupError") = some false)
    (kp_Rejected_ValueError : PySem.W.subIn K (.ref A_Rejected) (.type "ValueError") = some true)
    (kp_BadText_LookupError : PySem.W.subIn K (.ref A_BadText) (.type "LookupError") = some false)
    (kp_BadText_ValueError : PySem.W.subIn K (.ref A_BadText) (.type "ValueError") = some true)
    (kp_NoWords_LookupError : PySem.W.subIn K (.ref A_NoWords) (.type "LookupError") = some false)
    (kp_NoWords_ValueError : PySem.W.subIn K (.ref A_NoWords) (.type "ValueError") = some true)
    (kp_LastSheet_LookupError : PySem.W.subIn K (.ref A_LastSheet) (.type "LookupError") = some false)
    (kp_LastSheet_ValueError : PySem.W.subIn K (.ref A_LastSheet) (.type "ValueError") = some true)
    (kp_Busy_LookupError : PySem.W.subIn K (.ref A_Busy) (.type "LookupError") = some false)
    (kp_Busy_ValueError : PySem.W.subIn K (.ref A_Busy) (.type "ValueError") = some true)
    (kp_TooManyEdits_LookupError : PySem.W.subIn K (.ref A_TooManyEdits) (.type "LookupError") = some false)
    (kp_TooManyEdits_ValueError : PySem.W.subIn K (.ref A_TooManyEdits) (.type "ValueError") = some true)
    (kp_NothingToUndo_LookupError : PySem.W.subIn K (.ref A_NothingToUndo) (.type "LookupError") = some false)
    (kp_NothingToUndo_ValueError : PySem.W.subIn K (.ref A_NothingToUndo) (.type "ValueError") = some true)
    (kp_BadBatch_LookupError : PySem.W.subIn K (.ref A_BadBatch) (.type "LookupError") = some false)
    (kp_BadBatch_ValueError : PySem.W.subIn K (.ref A_BadBatch) (.type "ValueError") = some true)
    (kp_NoSheet_LookupError : PySem.W.subIn K (.ref A_NoSheet) (.type "LookupError") = some true)
    (kp_NoSheet_ValueError : PySem.W.subIn K (.ref A_NoSheet) (.type "ValueError") = some false)
    (kp_NoPlace_LookupError : PySem.W.subIn K (.ref A_NoPlace) (.type "LookupError") = some true)
    (kp_NoPlace_ValueError : PySem.W.subIn K (.ref A_NoPlace) (.type "ValueError") = some false)
    (kp_NoIndex_LookupError : PySem.W.subIn K (.ref A_NoIndex) (.type "LookupError") = some true)
    (kp_NoIndex_ValueError : PySem.W.subIn K (.ref A_NoIndex) (.type "ValueError") = some false)
    (kp_NoVersion_LookupError : PySem.W.subIn K (.ref A_NoVersion) (.type "LookupError") = some true)
    (kp_NoVersion_ValueError : PySem.W.subIn K (.ref A_NoVersion) (.type "ValueError") = some false)
    (kS : PySem.W.specialIn K (.builtin "object.__class__") "__get__" = some (some (.builtin "getset_descriptor.__get__"))) (kT : PySem.W.takesIn K (.builtin "object.__class__") = some true) :
    ∃ fd : FuncData, (∀ (s : Shared) (v : Value), BindsTo s fd ⟨[v], []⟩ [("_law_script", v)]) ∧ ∀ base : Heap, K.In base → base.Ns mainGlobals mg → FnG P w K mg base L2.CX0 3 fa fd ["_law_script"] (liftP K mg sp_law) := by
  have e := hfa.symm.trans (PySem.W.mg_of X G a7)
  cases e
  have F0 := fun_mk (st := s_law_deck) l0 c0 k0
  have G0 := PySem.W.mg_of X G a0
  have F1 := fun_mk (st := s_law_draw) l1 c1 k1
  have G1 := PySem.W.mg_of X G a1
  have F2 := fun_mk (st := s_lawA_odd) l2 c2 k2
  have G2 := PySem.W.mg_of X G a2
  have F3 := fun_mk (st := s_lawA_same) l3 c3 k3
  have G3 := PySem.W.mg_of X G a3
  have F4 := fun_mk (st := s_law_flags_of) l4 c4 k4
  have G4 := PySem.W.mg_of X G a4
  have F5 := fun_mk (st := s_law_errors) l5 c5 k5
  have G5 := PySem.W.mg_of X G a5
  have F6 := fun_mk (st := s_law_fields) l6 c6 k6
  have G6 := PySem.W.mg_of X G a6
  have F7 := fun_mk (st := s_law) l7 c7 k7
  have m_LookupError := PySem.W.mg_none_of X G z_LookupError
  have m_ValueError := PySem.W.mg_none_of X G z_ValueError
  have m_abs := PySem.W.mg_none_of X G z_abs
  have m_isinstance := PySem.W.mg_none_of X G z_isinstance
  have m_len := PySem.W.mg_none_of X G z_len
  have m_range := PySem.W.mg_none_of X G z_range
  have m_repr := PySem.W.mg_none_of X G z_repr
  have g_BATCH := PySem.W.mg_of X G y_BATCH
  have g_HISTORY := PySem.W.mg_of X G y_HISTORY
  have g_MAX_BLOCK := PySem.W.mg_of X G y_MAX_BLOCK
  have g_MAX_SHEETS := PySem.W.mg_of X G y_MAX_SHEETS
  have g_MAX_TIMES := PySem.W.mg_of X G y_MAX_TIMES
  have g_MAX_WORD := PySem.W.mg_of X G y_MAX_WORD
  have q_BadBatch := PySem.W.mg_of X G ka_BadBatch
  have q_BadForce := PySem.W.mg_of X G ka_BadForce
  have q_BadLetter := PySem.W.mg_of X G ka_BadLetter
  have q_BadNumber := PySem.W.mg_of X G ka_BadNumber
  have q_BadOrder := PySem.W.mg_of X G ka_BadOrder
  have q_BadSheet := PySem.W.mg_of X G ka_BadSheet
  have q_BadSheets := PySem.W.mg_of X G ka_BadSheets
  have q_BadText := PySem.W.mg_of X G ka_BadText
  have q_BadWord := PySem.W.mg_of X G ka_BadWord
  have q_Busy := PySem.W.mg_of X G ka_Busy
  have q_LastSheet := PySem.W.mg_of X G ka_LastSheet
  have q_NoIndex := PySem.W.mg_of X G ka_NoIndex
  have q_NoPlace := PySem.W.mg_of X G ka_NoPlace
  have q_NoSheet := PySem.W.mg_of X G ka_NoSheet
  have q_NoVersion := PySem.W.mg_of X G ka_NoVersion
  have q_NoWords := PySem.W.mg_of X G ka_NoWords
  have q_NothingToUndo := PySem.W.mg_of X G ka_NothingToUndo
  have q_PadError := PySem.W.mg_of X G ka_PadError
  have q_Rejected := PySem.W.mg_of X G ka_Rejected
  have q_TooLong := PySem.W.mg_of X G ka_TooLong
  have q_TooManyEdits := PySem.W.mg_of X G ka_TooManyEdits
  have q_TooStrong := PySem.W.mg_of X G ka_TooStrong
  have e_BadNumber : ExcC K A_BadNumber := ⟨kg_BadNumber, kj_BadNumber, ke_BadNumber, kh_BadNumber, kc_BadNumber, kS, kT, km_BadNumber⟩
  have x_BadNumber : FldCls K mg "BadNumber" "value" := ⟨A_BadNumber, I_BadNumber, "ValueError", [.type "ValueError", .type "Exception", .type "BaseException", .type "object"], "ValueError.__new__", "ValueError.__init__", ⟨PySem.F.excBase_ValueError, PySem.F.store_ValueError, fld_value, q_BadNumber, kq_BadNumber, ko_BadNumber, ks_BadNumber, kn_BadNumber, ki_BadNumber, kf_BadNumber, kk_BadNumber, ke_BadNumber, kt_BadNumber, kh_BadNumber, ⟨_, _, _, _, _, _, _, _, _, _, _, _, _, _, _, kl_BadNumber, kd_BadNumber⟩⟩⟩
  have r_BadNumber_value : FldRd K mg "BadNumber" "value" := ⟨A_BadNumber, q_BadNumber, ⟨kg_BadNumber, kj_BadNumber, ke_BadNumber, kh_BadNumber⟩, kn_BadNumber⟩
  have e_BadOrder : ExcC K A_BadOrder := ⟨kg_BadOrder, kj_BadOrder, ke_BadOrder, kh_BadOrder, kc_BadOrder, kS, kT, km_BadOrder⟩
  have x_BadOrder : FldCls K mg "BadOrder" "value" := ⟨A_BadOrder, I_BadOrder, "ValueError", [.type "ValueError", .type "Exception", .type "BaseException", .type "object"], "ValueError.__new__", "ValueError.__init__", ⟨PySem.F.excBase_ValueError, PySem.F.store_ValueError, fld_value, q_BadOrder, kq_BadOrder, ko_BadOrder, ks_BadOrder, kn_BadOrder, ki_BadOrder, kf_BadOrder, kk_BadOrder, ke_BadOrder, kt_BadOrder, kh_BadOrder, ⟨_, _, _, _, _, _, _, _, _, _, _, _, _, _, _, kl_BadOrder, kd_BadOrder⟩⟩⟩
  have r_BadOrder_value : FldRd K mg "BadOrder" "value" := ⟨A_BadOrder, q_BadOrder, ⟨kg_BadOrder, kj_BadOrder, ke_BadOrder, kh_BadOrder⟩, kn_BadOrder⟩
  have e_BadWord : ExcC K A_BadWord := ⟨kg_BadWord, kj_BadWord, ke_BadWord, kh_BadWord, kc_BadWord, kS, kT, km_BadWord⟩
  have x_BadWord : FldCls K mg "BadWord" "value" := ⟨A_BadWord, I_BadWord, "ValueError", [.type "ValueError", .type "Exception", .type "BaseException", .type "object"], "ValueError.__new__", "ValueError.__init__", ⟨PySem.F.excBase_ValueError, PySem.F.store_ValueError, fld_value, q_BadWord, kq_BadWord, ko_BadWord, ks_BadWord, kn_BadWord, ki_BadWord, kf_BadWord, kk_BadWord, ke_BadWord, kt_BadWord, kh_BadWord, ⟨_, _, _, _, _, _, _, _, _, _, _, _, _, _, _, kl_BadWord, kd_BadWord⟩⟩⟩
  have r_BadWord_value : FldRd K mg "BadWord" "value" := ⟨A_BadWord, q_BadWord, ⟨kg_BadWord, kj_BadWord, ke_BadWord, kh_BadWord⟩, kn_BadWord⟩
  have e_TooLong : ExcC K A_TooLong := ⟨kg_TooLong, kj_TooLong, ke_TooLong, kh_TooLong, kc_TooLong, kS, kT, km_TooLong⟩
  have x_TooLong : FldCls K mg "TooLong" "limit" := ⟨A_TooLong, I_TooLong, "ValueError", [.type "ValueError", .type "Exception", .type "BaseException", .type "object"], "ValueError.__new__", "ValueError.__init__", ⟨PySem.F.excBase_ValueError, PySem.F.store_ValueError, fld_limit, q_TooLong, kq_TooLong, ko_TooLong, ks_TooLong, kn_TooLong, ki_TooLong, kf_TooLong, kk_TooLong, ke_TooLong, kt_TooLong, kh_TooLong, ⟨_, _, _, _, _, _, _, _, _, _, _, _, _, _, _, kl_TooLong, kd_TooLong⟩⟩⟩
  have r_TooLong_limit : FldRd K mg "TooLong" "limit" := ⟨A_TooLong, q_TooLong, ⟨kg_TooLong, kj_TooLong, ke_TooLong, kh_TooLong⟩, kn_TooLong⟩
  have e_BadSheet : ExcC K A_BadSheet := ⟨kg_BadSheet, kj_BadSheet, ke_BadSheet, kh_BadSheet, kc_BadSheet, kS, kT, km_BadSheet⟩
  have x_BadSheet : FldCls K mg "BadSheet" "index" := ⟨A_BadSheet, I_BadSheet, "ValueError", [.type "ValueError", .type "Exception", .type "BaseException", .type "object"], "ValueError.__new__", "ValueError.__init__", ⟨PySem.F.excBase_ValueError, PySem.F.store_ValueError, fld_index, q_BadSheet, kq_BadSheet, ko_BadSheet, ks_BadSheet, kn_BadSheet, ki_BadSheet, kf_BadSheet, kk_BadSheet, ke_BadSheet, kt_BadSheet, kh_BadSheet, ⟨_, _, _, _, _, _, _, _, _, _, _, _, _, _, _, kl_BadSheet, kd_BadSheet⟩⟩⟩
  have r_BadSheet_index : FldRd K mg "BadSheet" "index" := ⟨A_BadSheet, q_BadSheet, ⟨kg_BadSheet, kj_BadSheet, ke_BadSheet, kh_BadSheet⟩, kn_BadSheet⟩
  have e_BadSheets : ExcC K A_BadSheets := ⟨kg_BadSheets, kj_BadSheets, ke_BadSheets, kh_BadSheets, kc_BadSheets, kS, kT, km_BadSheets⟩
  have x_BadSheets : FldCls K mg "BadSheets" "error" := ⟨A_BadSheets, I_BadSheets, "ValueError", [.type "ValueError", .type "Exception", .type "BaseException", .type "object"], "ValueError.__new__", "ValueError.__init__", ⟨PySem.F.excBase_ValueError, PySem.F.store_ValueError, fld_error, q_BadSheets, kq_BadSheets, ko_BadSheets, ks_BadSheets, kn_BadSheets, ki_BadSheets, kf_BadSheets, kk_BadSheets, ke_BadSheets, kt_BadSheets, kh_BadSheets, ⟨_, _, _, _, _, _, _, _, _, _, _, _, _, _, _, kl_BadSheets, kd_BadSheets⟩⟩⟩
  have r_BadSheets_error : FldRd K mg "BadSheets" "error" := ⟨A_BadSheets, q_BadSheets, ⟨kg_BadSheets, kj_BadSheets, ke_BadSheets, kh_BadSheets⟩, kn_BadSheets⟩
  have e_BadLetter : ExcC K A_BadLetter := ⟨kg_BadLetter, kj_BadLetter, ke_BadLetter, kh_BadLetter, kc_BadLetter, kS, kT, km_BadLetter⟩
  have x_BadLetter : FldCls K mg "BadLetter" "value" := ⟨A_BadLetter, I_BadLetter, "ValueError", [.type "ValueError", .type "Exception", .type "BaseException", .type "object"], "ValueError.__new__", "ValueError.__init__", ⟨PySem.F.excBase_ValueError, PySem.F.store_ValueError, fld_value, q_BadLetter, kq_BadLetter, ko_BadLetter, ks_BadLetter, kn_BadLetter, ki_BadLetter, kf_BadLetter, kk_BadLetter, ke_BadLetter, kt_BadLetter, kh_BadLetter, ⟨_, _, _, _, _, _, _, _, _, _, _, _, _, _, _, kl_BadLetter, kd_BadLetter⟩⟩⟩
  have r_BadLetter_value : FldRd K mg "BadLetter" "value" := ⟨A_BadLetter, q_BadLetter, ⟨kg_BadLetter, kj_BadLetter, ke_BadLetter, kh_BadLetter⟩, kn_BadLetter⟩
  have e_BadForce : ExcC K A_BadForce := ⟨kg_BadForce, kj_BadForce, ke_BadForce, kh_BadForce, kc_BadForce, kS, kT, km_BadForce⟩
  have x_BadForce : FldCls K mg "BadForce" "value" := ⟨A_BadForce, I_BadForce, "ValueError", [.type "ValueError", .type "Exception", .type "BaseException", .type "object"], "ValueError.__new__", "ValueError.__init__", ⟨PySem.F.excBase_ValueError, PySem.F.store_ValueError, fld_value, q_BadForce, kq_BadForce, ko_BadForce, ks_BadForce, kn_BadForce, ki_BadForce, kf_BadForce, kk_BadForce, ke_BadForce, kt_BadForce, kh_BadForce, ⟨_, _, _, _, _, _, _, _, _, _, _, _, _, _, _, kl_BadForce, kd_BadForce⟩⟩⟩
  have r_BadForce_value : FldRd K mg "BadForce" "value" := ⟨A_BadForce, q_BadForce, ⟨kg_BadForce, kj_BadForce, ke_BadForce, kh_BadForce⟩, kn_BadForce⟩
  have e_TooStrong : ExcC K A_TooStrong := ⟨kg_TooStrong, kj_TooStrong, ke_TooStrong, kh_TooStrong, kc_TooStrong, kS, kT, km_TooStrong⟩
  have x_TooStrong : FldCls K mg "TooStrong" "limit" := ⟨A_TooStrong, I_TooStrong, "ValueError", [.type "ValueError", .type "Exception", .type "BaseException", .type "object"], "ValueError.__new__", "ValueError.__init__", ⟨PySem.F.excBase_ValueError, PySem.F.store_ValueError, fld_limit, q_TooStrong, kq_TooStrong, ko_TooStrong, ks_TooStrong, kn_TooStrong, ki_TooStrong, kf_TooStrong, kk_TooStrong, ke_TooStrong, kt_TooStrong, kh_TooStrong, ⟨_, _, _, _, _, _, _, _, _, _, _, _, _, _, _, kl_TooStrong, kd_TooStrong⟩⟩⟩
  have r_TooStrong_limit : FldRd K mg "TooStrong" "limit" := ⟨A_TooStrong, q_TooStrong, ⟨kg_TooStrong, kj_TooStrong, ke_TooStrong, kh_TooStrong⟩, kn_TooStrong⟩
  have e_Rejected : ExcC K A_Rejected := ⟨kg_Rejected, kj_Rejected, ke_Rejected, kh_Rejected, kc_Rejected, kS, kT, km_Rejected⟩
  have x_Rejected : FldCls K mg "Rejected" "index" := ⟨A_Rejected, I_Rejected, "ValueError", [.type "ValueError", .type "Exception", .type "BaseException", .type "object"], "ValueError.__new__", "ValueError.__init__", ⟨PySem.F.excBase_ValueError, PySem.F.store_ValueError, fld_index, q_Rejected, kq_Rejected, ko_Rejected, ks_Rejected, kn_Rejected, ki_Rejected, kf_Rejected, kk_Rejected, ke_Rejected, kt_Rejected, kh_Rejected, ⟨_, _, _, _, _, _, _, _, _, _, _, _, _, _, _, kl_Rejected, kd_Rejected⟩⟩⟩
  have r_Rejected_index : FldRd K mg "Rejected" "index" := ⟨A_Rejected, q_Rejected, ⟨kg_Rejected, kj_Rejected, ke_Rejected, kh_Rejected⟩, kn_Rejected⟩
  have e_BadText : ExcC K A_BadText := ⟨kg_BadText, kj_BadText, ke_BadText, kh_BadText, kc_BadText, kS, kT, km_BadText⟩
  have x_BadText : FldCls K mg "BadText" "index" := ⟨A_BadText, I_BadText, "ValueError", [.type "ValueError", .type "Exception", .type "BaseException", .type "object"], "ValueError.__new__", "ValueError.__init__", ⟨PySem.F.excBase_ValueError, PySem.F.store_ValueError, fld_index, q_BadText, kq_BadText, ko_BadText, ks_BadText, kn_BadText, ki_BadText, kf_BadText, kk_BadText, ke_BadText, kt_BadText, kh_BadText, ⟨_, _, _, _, _, _, _, _, _, _, _, _, _, _, _, kl_BadText, kd_BadText⟩⟩⟩
  have r_BadText_index : FldRd K mg "BadText" "index" := ⟨A_BadText, q_BadText, ⟨kg_BadText, kj_BadText, ke_BadText, kh_BadText⟩, kn_BadText⟩
  have e_NoWords : ExcC K A_NoWords := ⟨kg_NoWords, kj_NoWords, ke_NoWords, kh_NoWords, kc_NoWords, kS, kT, km_NoWords⟩
  have x_NoWords : NoFld K mg "NoWords" := ⟨A_NoWords, "ValueError", [.type "ValueError", .type "Exception", .type "BaseException", .type "object"], "ValueError.__new__", "ValueError.__init__", PySem.F.excBase_ValueError, kx_NoWords, q_NoWords, kk_NoWords, ke_NoWords, kt_NoWords⟩
  have e_LastSheet : ExcC K A_LastSheet := ⟨kg_LastSheet, kj_LastSheet, ke_LastSheet, kh_LastSheet, kc_LastSheet, kS, kT, km_LastSheet⟩
  have x_LastSheet : NoFld K mg "LastSheet" := ⟨A_LastSheet, "ValueError", [.type "ValueError", .type "Exception", .type "BaseException", .type "object"], "ValueError.__new__", "ValueError.__init__", PySem.F.excBase_ValueError, kx_LastSheet, q_LastSheet, kk_LastSheet, ke_LastSheet, kt_LastSheet⟩
  have e_Busy : ExcC K A_Busy := ⟨kg_Busy, kj_Busy, ke_Busy, kh_Busy, kc_Busy, kS, kT, km_Busy⟩
  have x_Busy : NoFld K mg "Busy" := ⟨A_Busy, "ValueError", [.type "ValueError", .type "Exception", .type "BaseException", .type "object"], "ValueError.__new__", "ValueError.__init__", PySem.F.excBase_ValueError, kx_Busy, q_Busy, kk_Busy, ke_Busy, kt_Busy⟩
  have e_TooManyEdits : ExcC K A_TooManyEdits := ⟨kg_TooManyEdits, kj_TooManyEdits, ke_TooManyEdits, kh_TooManyEdits, kc_TooManyEdits, kS, kT, km_TooManyEdits⟩
  have x_TooManyEdits : NoFld K mg "TooManyEdits" := ⟨A_TooManyEdits, "ValueError", [.type "ValueError", .type "Exception", .type "BaseException", .type "object"], "ValueError.__new__", "ValueError.__init__", PySem.F.excBase_ValueError, kx_TooManyEdits, q_TooManyEdits, kk_TooManyEdits, ke_TooManyEdits, kt_TooManyEdits⟩
  have e_NothingToUndo : ExcC K A_NothingToUndo := ⟨kg_NothingToUndo, kj_NothingToUndo, ke_NothingToUndo, kh_NothingToUndo, kc_NothingToUndo, kS, kT, km_NothingToUndo⟩
  have x_NothingToUndo : NoFld K mg "NothingToUndo" := ⟨A_NothingToUndo, "ValueError", [.type "ValueError", .type "Exception", .type "BaseException", .type "object"], "ValueError.__new__", "ValueError.__init__", PySem.F.excBase_ValueError, kx_NothingToUndo, q_NothingToUndo, kk_NothingToUndo, ke_NothingToUndo, kt_NothingToUndo⟩
  have e_BadBatch : ExcC K A_BadBatch := ⟨kg_BadBatch, kj_BadBatch, ke_BadBatch, kh_BadBatch, kc_BadBatch, kS, kT, km_BadBatch⟩
  have x_BadBatch : NoFld K mg "BadBatch" := ⟨A_BadBatch, "ValueError", [.type "ValueError", .type "Exception", .type "BaseException", .type "object"], "ValueError.__new__", "ValueError.__init__", PySem.F.excBase_ValueError, kx_BadBatch, q_BadBatch, kk_BadBatch, ke_BadBatch, kt_BadBatch⟩
  have e_NoSheet : ExcC K A_NoSheet := ⟨kg_NoSheet, kj_NoSheet, ke_NoSheet, kh_NoSheet, kc_NoSheet, kS, kT, km_NoSheet⟩
  have x_NoSheet : FldCls K mg "NoSheet" "value" := ⟨A_NoSheet, I_NoSheet, "LookupError", [.type "LookupError", .type "Exception", .type "BaseException", .type "object"], "LookupError.__new__", "LookupError.__init__", ⟨PySem.F.excBase_LookupError, PySem.F.store_LookupError, fld_value, q_NoSheet, kq_NoSheet, ko_NoSheet, ks_NoSheet, kn_NoSheet, ki_NoSheet, kf_NoSheet, kk_NoSheet, ke_NoSheet, kt_NoSheet, kh_NoSheet, ⟨_, _, _, _, _, _, _, _, _, _, _, _, _, _, _, kl_NoSheet, kd_NoSheet⟩⟩⟩
  have r_NoSheet_value : FldRd K mg "NoSheet" "value" := ⟨A_NoSheet, q_NoSheet, ⟨kg_NoSheet, kj_NoSheet, ke_NoSheet, kh_NoSheet⟩, kn_NoSheet⟩
  have e_NoPlace : ExcC K A_NoPlace := ⟨kg_NoPlace, kj_NoPlace, ke_NoPlace, kh_NoPlace, kc_NoPlace, kS, kT, km_NoPlace⟩
  have x_NoPlace : FldCls K mg "NoPlace" "value" := ⟨A_NoPlace, I_NoPlace, "LookupError", [.type "LookupError", .type "Exception", .type "BaseException", .type "object"], "LookupError.__new__", "LookupError.__init__", ⟨PySem.F.excBase_LookupError, PySem.F.store_LookupError, fld_value, q_NoPlace, kq_NoPlace, ko_NoPlace, ks_NoPlace, kn_NoPlace, ki_NoPlace, kf_NoPlace, kk_NoPlace, ke_NoPlace, kt_NoPlace, kh_NoPlace, ⟨_, _, _, _, _, _, _, _, _, _, _, _, _, _, _, kl_NoPlace, kd_NoPlace⟩⟩⟩
  have r_NoPlace_value : FldRd K mg "NoPlace" "value" := ⟨A_NoPlace, q_NoPlace, ⟨kg_NoPlace, kj_NoPlace, ke_NoPlace, kh_NoPlace⟩, kn_NoPlace⟩
  have e_NoIndex : ExcC K A_NoIndex := ⟨kg_NoIndex, kj_NoIndex, ke_NoIndex, kh_NoIndex, kc_NoIndex, kS, kT, km_NoIndex⟩
  have x_NoIndex : FldCls K mg "NoIndex" "index" := ⟨A_NoIndex, I_NoIndex, "LookupError", [.type "LookupError", .type "Exception", .type "BaseException", .type "object"], "LookupError.__new__", "LookupError.__init__", ⟨PySem.F.excBase_LookupError, PySem.F.store_LookupError, fld_index, q_NoIndex, kq_NoIndex, ko_NoIndex, ks_NoIndex, kn_NoIndex, ki_NoIndex, kf_NoIndex, kk_NoIndex, ke_NoIndex, kt_NoIndex, kh_NoIndex, ⟨_, _, _, _, _, _, _, _, _, _, _, _, _, _, _, kl_NoIndex, kd_NoIndex⟩⟩⟩
  have r_NoIndex_index : FldRd K mg "NoIndex" "index" := ⟨A_NoIndex, q_NoIndex, ⟨kg_NoIndex, kj_NoIndex, ke_NoIndex, kh_NoIndex⟩, kn_NoIndex⟩
  have e_NoVersion : ExcC K A_NoVersion := ⟨kg_NoVersion, kj_NoVersion, ke_NoVersion, kh_NoVersion, kc_NoVersion, kS, kT, km_NoVersion⟩
  have x_NoVersion : FldCls K mg "NoVersion" "value" := ⟨A_NoVersion, I_NoVersion, "LookupError", [.type "LookupError", .type "Exception", .type "BaseException", .type "object"], "LookupError.__new__", "LookupError.__init__", ⟨PySem.F.excBase_LookupError, PySem.F.store_LookupError, fld_value, q_NoVersion, kq_NoVersion, ko_NoVersion, ks_NoVersion, kn_NoVersion, ki_NoVersion, kf_NoVersion, kk_NoVersion, ke_NoVersion, kt_NoVersion, kh_NoVersion, ⟨_, _, _, _, _, _, _, _, _, _, _, _, _, _, _, kl_NoVersion, kd_NoVersion⟩⟩⟩
  have r_NoVersion_value : FldRd K mg "NoVersion" "value" := ⟨A_NoVersion, q_NoVersion, ⟨kg_NoVersion, kj_NoVersion, ke_NoVersion, kh_NoVersion⟩, kn_NoVersion⟩
  have xt : XTabOk K mg tab_law := ⟨List.forall_mem_cons.mpr ⟨⟨A_BadNumber, A_BadBatch, q_BadNumber, q_BadBatch, kit_sub kh_BadBatch kt_BadBatch kp_BadNumber_BadBatch kz_BadNumber, PySem.W.exm_ref ke_BadBatch kh_BadBatch kt_BadBatch kp_BadNumber_BadBatch, e_BadNumber⟩, List.forall_mem_cons.mpr ⟨⟨A_BadNumber, A_BadForce, q_BadNumber, q_BadForce, kit_sub kh_BadForce kt_BadForce kp_BadNumber_BadForce kz_BadNumber, PySem.W.exm_ref ke_BadForce kh_BadForce kt_BadForce kp_BadNumber_BadForce, e_BadNumber⟩, List.forall_mem_cons.mpr ⟨⟨A_BadNumber, A_BadLetter, q_BadNumber, q_BadLetter, kit_sub kh_BadLetter kt_BadLetter kp_BadNumber_BadLetter kz_BadNumber, PySem.W.exm_ref ke_BadLetter kh_BadLetter kt_BadLetter kp_BadNumber_BadLetter, e_BadNumber⟩, List.forall_mem_cons.mpr ⟨⟨A_BadNumber, A_BadNumber, q_BadNumber, q_BadNumber, kit_sub kh_BadNumber kt_BadNumber kz_BadNumber kz_BadNumber, PySem.W.exm_ref ke_BadNumber kh_BadNumber kt_BadNumber kz_BadNumber, e_BadNumber⟩, List.forall_mem_cons.mpr ⟨⟨A_BadNumber, A_BadOrder, q_BadNumber, q_BadOrder, kit_sub kh_BadOrder kt_BadOrder kp_BadNumber_BadOrder kz_BadNumber, PySem.W.exm_ref ke_BadOrder kh_BadOrder kt_BadOrder kp_BadNumber_BadOrder, e_BadNumber⟩, List.forall_mem_cons.mpr ⟨⟨A_BadNumber, A_BadSheet, q_BadNumber, q_BadSheet, kit_sub kh_BadSheet kt_BadSheet kp_BadNumber_BadSheet kz_BadNumber, PySem.W.exm_ref ke_BadSheet kh_BadSheet kt_BadSheet kp_BadNumber_BadSheet, e_BadNumber⟩, List.forall_mem_cons.mpr ⟨⟨A_BadNumber, A_BadSheets, q_BadNumber, q_BadSheets, kit_sub kh_BadSheets kt_BadSheets kp_BadNumber_BadSheets kz_BadNumber, PySem.W.exm_ref ke_BadSheets kh_BadSheets kt_BadSheets kp_BadNumber_BadSheets, e_BadNumber⟩, List.forall_mem_cons.mpr ⟨⟨A_BadNumber, A_BadText, q_BadNumber, q_BadText, kit_sub kh_BadText kt_BadText kp_BadNumber_BadText kz_BadNumber, PySem.W.exm_ref ke_BadText kh_BadText kt_BadText kp_BadNumber_BadText, e_BadNumber⟩, List.forall_mem_cons.mpr ⟨⟨A_BadNumber, A_BadWord, q_BadNumber, q_BadWord, kit_sub kh_BadWord kt_BadWord kp_BadNumber_BadWord kz_BadNumber, PySem.W.exm_ref ke_BadWord kh_BadWord kt_BadWord kp_BadNumber_BadWord, e_BadNumber⟩, List.forall_mem_cons.mpr ⟨⟨A_BadNumber, A_Busy, q_BadNumber, q_Busy, kit_sub kh_Busy kt_Busy kp_BadNumber_Busy kz_BadNumber, PySem.W.exm_ref ke_Busy kh_Busy kt_Busy kp_BadNumber_Busy, e_BadNumber⟩, List.forall_mem_cons.mpr ⟨⟨A_BadNumber, A_LastSheet, q_BadNumber, q_LastSheet, kit_sub kh_LastSheet kt_LastSheet kp_BadNumber_LastSheet kz_BadNumber, PySem.W.exm_ref ke_LastSheet kh_LastSheet kt_LastSheet kp_BadNumber_LastSheet, e_BadNumber⟩, List.forall_mem_cons.mpr ⟨⟨A_BadNumber, A_NoIndex, q_BadNumber, q_NoIndex, kit_sub kh_NoIndex kt_NoIndex kp_BadNumber_NoIndex kz_BadNumber, PySem.W.exm_ref ke_NoIndex kh_NoIndex kt_NoIndex kp_BadNumber_NoIndex, e_BadNumber⟩, List.forall_mem_cons.mpr ⟨⟨A_BadNumber, A_NoPlace, q_BadNumber, q_NoPlace, kit_sub kh_NoPlace kt_NoPlace kp_BadNumber_NoPlace kz_BadNumber, PySem.W.exm_ref ke_NoPlace kh_NoPlace kt_NoPlace kp_BadNumber_NoPlace, e_BadNumber⟩, List.forall_mem_cons.mpr ⟨⟨A_BadNumber, A_NoSheet, q_BadNumber, q_NoSheet, kit_sub kh_NoSheet kt_NoSheet kp_BadNumber_NoSheet kz_BadNumber, PySem.W.exm_ref ke_NoSheet kh_NoSheet kt_NoSheet kp_BadNumber_NoSheet, e_BadNumber⟩, List.forall_mem_cons.mpr ⟨⟨A_BadNumber, A_NoVersion, q_BadNumber, q_NoVersion, kit_sub kh_NoVersion kt_NoVersion kp_BadNumber_NoVersion kz_BadNumber, PySem.W.exm_ref ke_NoVersion kh_NoVersion kt_NoVersion kp_BadNumber_NoVersion, e_BadNumber⟩, List.forall_mem_cons.mpr ⟨⟨A_BadNumber, A_NoWords, q_BadNumber, q_NoWords, kit_sub kh_NoWords kt_NoWords kp_BadNumber_NoWords kz_BadNumber, PySem.W.exm_ref ke_NoWords kh_NoWords kt_NoWords kp_BadNumber_NoWords, e_BadNumber⟩, List.forall_mem_cons.mpr ⟨⟨A_BadNumber, A_NothingToUndo, q_BadNumber, q_NothingToUndo, kit_sub kh_NothingToUndo kt_NothingToUndo kp_BadNumber_NothingToUndo kz_BadNumber, PySem.W.exm_ref ke_NothingToUndo kh_NothingToUndo kt_NothingToUndo kp_BadNumber_NothingToUndo, e_BadNumber⟩, List.forall_mem_cons.mpr ⟨⟨A_BadNumber, A_PadError, q_BadNumber, q_PadError, kit_sub kh_PadError kt_PadError kp_BadNumber_PadError kz_BadNumber, PySem.W.exm_ref ke_PadError kh_PadError kt_PadError kp_BadNumber_PadError, e_BadNumber⟩, List.forall_mem_cons.mpr ⟨⟨A_BadNumber, A_Rejected, q_BadNumber, q_Rejected, kit_sub kh_Rejected kt_Rejected kp_BadNumber_Rejected kz_BadNumber, PySem.W.exm_ref ke_Rejected kh_Rejected kt_Rejected kp_BadNumber_Rejected, e_BadNumber⟩, List.forall_mem_cons.mpr ⟨⟨A_BadNumber, A_TooLong, q_BadNumber, q_TooLong, kit_sub kh_TooLong kt_TooLong kp_BadNumber_TooLong kz_BadNumber, PySem.W.exm_ref ke_TooLong kh_TooLong kt_TooLong kp_BadNumber_TooLong, e_BadNumber⟩, List.forall_mem_cons.mpr ⟨⟨A_BadNumber, A_TooManyEdits, q_BadNumber, q_TooManyEdits, kit_sub kh_TooManyEdits kt_TooManyEdits kp_BadNumber_TooManyEdits kz_BadNumber, PySem.W.exm_ref ke_TooManyEdits kh_TooManyEdits kt_TooManyEdits kp_BadNumber_TooManyEdits, e_BadNumber⟩, List.forall_mem_cons.mpr ⟨⟨A_BadNumber, A_TooStrong, q_BadNumber, q_TooStrong, kit_sub kh_TooStrong kt_TooStrong kp_BadNumber_TooStrong kz_BadNumber, PySem.W.exm_ref ke_TooStrong kh_TooStrong kt_TooStrong kp_BadNumber_TooStrong, e_BadNumber⟩, List.forall_mem_cons.mpr ⟨⟨A_BadOrder, A_BadBatch, q_BadOrder, q_BadBatch, kit_sub kh_BadBatch kt_BadBatch kp_BadOrder_BadBatch kz_BadOrder, PySem.W.exm_ref ke_BadBatch kh_BadBatch kt_BadBatch kp_BadOrder_BadBatch, e_BadOrder⟩, List.forall_mem_cons.mpr ⟨⟨A_BadOrder, A_BadForce, q_BadOrder, q_BadForce, kit_sub kh_BadForce kt_BadForce kp_BadOrder_BadForce kz_BadOrder, PySem.W.exm_ref ke_BadForce kh_BadForce kt_BadForce kp_BadOrder_BadForce, e_BadOrder⟩, List.forall_mem_cons.mpr ⟨⟨A_BadOrder, A_BadLetter, q_BadOrder, q_BadLetter, kit_sub kh_BadLetter kt_BadLetter kp_BadOrder_BadLetter kz_BadOrder, PySem.W.exm_ref ke_BadLetter kh_BadLetter kt_BadLetter kp_BadOrder_BadLetter, e_BadOrder⟩, List.forall_mem_cons.mpr ⟨⟨A_BadOrder, A_BadNumber, q_BadOrder, q_BadNumber, kit_sub kh_BadNumber kt_BadNumber kp_BadOrder_BadNumber kz_BadOrder, PySem.W.exm_ref ke_BadNumber kh_BadNumber kt_BadNumber kp_BadOrder_BadNumber, e_BadOrder⟩, List.forall_mem_cons.mpr ⟨⟨A_BadOrder, A_BadOrder, q_BadOrder, q_BadOrder, kit_sub kh_BadOrder kt_BadOrder kz_BadOrder kz_BadOrder, PySem.W.exm_ref ke_BadOrder kh_BadOrder kt_BadOrder kz_BadOrder, e_BadOrder⟩, List.forall_mem_cons.mpr ⟨⟨A_BadOrder, A_BadSheet, q_BadOrder, q_BadSheet, kit_sub kh_BadSheet kt_BadSheet kp_BadOrder_BadSheet kz_BadOrder, PySem.W.exm_ref ke_BadSheet kh_BadSheet kt_BadSheet kp_BadOrder_BadSheet, e_BadOrder⟩, List.forall_mem_cons.mpr ⟨⟨A_BadOrder, A_BadSheets, q_BadOrder, q_BadSheets, kit_sub kh_BadSheets kt_BadSheets kp_BadOrder_BadSheets kz_BadOrder, PySem.W.exm_ref ke_BadSheets kh_BadSheets kt_BadSheets kp_BadOrder_BadSheets, e_BadOrder⟩, List.forall_mem_cons.mpr ⟨⟨A_BadOrder, A_BadText, q_BadOrder, q_BadText, kit_sub kh_BadText kt_BadText kp_BadOrder_BadText kz_BadOrder, PySem.W.exm_ref ke_BadText kh_BadText kt_BadText kp_BadOrder_BadText, e_BadOrder⟩, List.forall_mem_cons.mpr ⟨⟨A_BadOrder, A_BadWord, q_BadOrder, q_BadWord, kit_sub kh_BadWord kt_BadWord kp_BadOrder_BadWord kz_BadOrder, PySem.W.exm_ref ke_BadWord kh_BadWord kt_BadWord kp_BadOrder_BadWord, e_BadOrder⟩, List.forall_mem_cons.mpr ⟨⟨A_BadOrder, A_Busy, q_BadOrder, q_Busy, kit_sub kh_Busy kt_Busy kp_BadOrder_Busy kz_BadOrder, PySem.W.exm_ref ke_Busy kh_Busy kt_Busy kp_BadOrder_Busy, e_BadOrder⟩, List.forall_mem_cons.mpr ⟨⟨A_BadOrder, A_LastSheet, q_BadOrder, q_LastSheet, kit_sub kh_LastSheet kt_LastSheet kp_BadOrder_LastSheet kz_BadOrder, PySem.W.exm_ref ke_LastSheet kh_LastSheet kt_LastSheet kp_BadOrder_LastSheet, e_BadOrder⟩, List.forall_mem_cons.mpr ⟨⟨A_BadOrder, A_NoIndex, q_BadOrder, q_NoIndex, kit_sub kh_NoIndex kt_NoIndex kp_BadOrder_NoIndex kz_BadOrder, PySem.W.exm_ref ke_NoIndex kh_NoIndex kt_NoIndex kp_BadOrder_NoIndex, e_BadOrder⟩, List.forall_mem_cons.mpr ⟨⟨A_BadOrder, A_NoPlace, q_BadOrder, q_NoPlace, kit_sub kh_NoPlace kt_NoPlace kp_BadOrder_NoPlace kz_BadOrder, PySem.W.exm_ref ke_NoPlace kh_NoPlace kt_NoPlace kp_BadOrder_NoPlace, e_BadOrder⟩, List.forall_mem_cons.mpr ⟨⟨A_BadOrder, A_NoSheet, q_BadOrder, q_NoSheet, kit_sub kh_NoSheet kt_NoSheet kp_BadOrder_NoSheet kz_BadOrder, PySem.W.exm_ref ke_NoSheet kh_NoSheet kt_NoSheet kp_BadOrder_NoSheet, e_BadOrder⟩, List.forall_mem_cons.mpr ⟨⟨A_BadOrder, A_NoVersion, q_BadOrder, q_NoVersion, kit_sub kh_NoVersion kt_NoVersion kp_BadOrder_NoVersion kz_BadOrder, PySem.W.exm_ref ke_NoVersion kh_NoVersion kt_NoVersion kp_BadOrder_NoVersion, e_BadOrder⟩, List.forall_mem_cons.mpr ⟨⟨A_BadOrder, A_NoWords, q_BadOrder, q_NoWords, kit_sub kh_NoWords kt_NoWords kp_BadOrder_NoWords kz_BadOrder, PySem.W.exm_ref ke_NoWords kh_NoWords kt_NoWords kp_BadOrder_NoWords, e_BadOrder⟩, List.forall_mem_cons.mpr ⟨⟨A_BadOrder, A_NothingToUndo, q_BadOrder, q_NothingToUndo, kit_sub kh_NothingToUndo kt_NothingToUndo kp_BadOrder_NothingToUndo kz_BadOrder, PySem.W.exm_ref ke_NothingToUndo kh_NothingToUndo kt_NothingToUndo kp_BadOrder_NothingToUndo, e_BadOrder⟩, List.forall_mem_cons.mpr ⟨⟨A_BadOrder, A_PadError, q_BadOrder, q_PadError, kit_sub kh_PadError kt_PadError kp_BadOrder_PadError kz_BadOrder, PySem.W.exm_ref ke_PadError kh_PadError kt_PadError kp_BadOrder_PadError, e_BadOrder⟩, List.forall_mem_cons.mpr ⟨⟨A_BadOrder, A_Rejected, q_BadOrder, q_Rejected, kit_sub kh_Rejected kt_Rejected kp_BadOrder_Rejected kz_BadOrder, PySem.W.exm_ref ke_Rejected kh_Rejected kt_Rejected kp_BadOrder_Rejected, e_BadOrder⟩, List.forall_mem_cons.mpr ⟨⟨A_BadOrder, A_TooLong, q_BadOrder, q_TooLong, kit_sub kh_TooLong kt_TooLong kp_BadOrder_TooLong kz_BadOrder, PySem.W.exm_ref ke_TooLong kh_TooLong kt_TooLong kp_BadOrder_TooLong, e_BadOrder⟩, List.forall_mem_cons.mpr ⟨⟨A_BadOrder, A_TooManyEdits, q_BadOrder, q_TooManyEdits, kit_sub kh_TooManyEdits kt_TooManyEdits kp_BadOrder_TooManyEdits kz_BadOrder, PySem.W.exm_ref ke_TooManyEdits kh_TooManyEdits kt_TooManyEdits kp_BadOrder_TooManyEdits, e_BadOrder⟩, List.forall_mem_cons.mpr ⟨⟨A_BadOrder, A_TooStrong, q_BadOrder, q_TooStrong, kit_sub kh_TooStrong kt_TooStrong kp_BadOrder_TooStrong kz_BadOrder, PySem.W.exm_ref ke_TooStrong kh_TooStrong kt_TooStrong kp_BadOrder_TooStrong, e_BadOrder⟩, List.forall_mem_cons.mpr ⟨⟨A_BadWord, A_BadBatch, q_BadWord, q_BadBatch, kit_sub kh_BadBatch kt_BadBatch kp_BadWord_BadBatch kz_BadWord, PySem.W.exm_ref ke_BadBatch kh_BadBatch kt_BadBatch kp_BadWord_BadBatch, e_BadWord⟩, List.forall_mem_cons.mpr ⟨⟨A_BadWord, A_BadForce, q_BadWord, q_BadForce, kit_sub kh_BadForce kt_BadForce kp_BadWord_BadForce kz_BadWord, PySem.W.exm_ref ke_BadForce kh_BadForce kt_BadForce kp_BadWord_BadForce, e_BadWord⟩, List.forall_mem_cons.mpr ⟨⟨A_BadWord, A_BadLetter, q_BadWord, q_BadLetter, kit_sub kh_BadLetter kt_BadLetter kp_BadWord_BadLetter kz_BadWord, PySem.W.exm_ref ke_BadLetter kh_BadLetter kt_BadLetter kp_BadWord_BadLetter, e_BadWord⟩, List.forall_mem_cons.mpr ⟨⟨A_BadWord, A_BadNumber, q_BadWord, q_BadNumber, kit_sub kh_BadNumber kt_BadNumber kp_BadWord_BadNumber kz_BadWord, PySem.W.exm_ref ke_BadNumber kh_BadNumber kt_BadNumber kp_BadWord_BadNumber, e_BadWord⟩, List.forall_mem_cons.mpr ⟨⟨A_BadWord, A_BadOrder, q_BadWord, q_BadOrder, kit_sub kh_BadOrder kt_BadOrder kp_BadWord_BadOrder kz_BadWord, PySem.W.exm_ref ke_BadOrder kh_BadOrder kt_BadOrder kp_BadWord_BadOrder, e_BadWord⟩, List.forall_mem_cons.mpr ⟨⟨A_BadWord, A_BadSheet, q_BadWord, q_BadSheet, kit_sub kh_BadSheet kt_BadSheet kp_BadWord_BadSheet kz_BadWord, PySem.W.exm_ref ke_BadSheet kh_BadSheet kt_BadSheet kp_BadWord_BadSheet, e_BadWord⟩, List.forall_mem_cons.mpr ⟨⟨A_BadWord, A_BadSheets, q_BadWord, q_BadSheets, kit_sub kh_BadSheets kt_BadSheets kp_BadWord_BadSheets kz_BadWord, PySem.W.exm_ref ke_BadSheets kh_BadSheets kt_BadSheets kp_BadWord_BadSheets, e_BadWord⟩, List.forall_mem_cons.mpr ⟨⟨A_BadWord, A_BadText, q_BadWord, q_BadText, kit_sub kh_BadText kt_BadText kp_BadWord_BadText kz_BadWord, PySem.W.exm_ref ke_BadText kh_BadText kt_BadText kp_BadWord_BadText, e_BadWord⟩, List.forall_mem_cons.mpr ⟨⟨A_BadWord, A_BadWord, q_BadWord, q_BadWord, kit_sub kh_BadWord kt_BadWord kz_BadWord kz_BadWord, PySem.W.exm_ref ke_BadWord kh_BadWord kt_BadWord kz_BadWord, e_BadWord⟩, List.forall_mem_cons.mpr ⟨⟨A_BadWord, A_Busy, q_BadWord, q_Busy, kit_sub kh_Busy kt_Busy kp_BadWord_Busy kz_BadWord, PySem.W.exm_ref ke_Busy kh_Busy kt_Busy kp_BadWord_Busy, e_BadWord⟩, List.forall_mem_cons.mpr ⟨⟨A_BadWord, A_LastSheet, q_BadWord, q_LastSheet, kit_sub kh_LastSheet kt_LastSheet kp_BadWord_LastSheet kz_BadWord, PySem.W.exm_ref ke_LastSheet kh_LastSheet kt_LastSheet kp_BadWord_LastSheet, e_BadWord⟩, List.forall_mem_cons.mpr ⟨⟨A_BadWord, A_NoIndex, q_BadWord, q_NoIndex, kit_sub kh_NoIndex kt_NoIndex kp_BadWord_NoIndex kz_BadWord, PySem.W.exm_ref ke_NoIndex kh_NoIndex kt_NoIndex kp_BadWord_NoIndex, e_BadWord⟩, List.forall_mem_cons.mpr ⟨⟨A_BadWord, A_NoPlace, q_BadWord, q_NoPlace, kit_sub kh_NoPlace kt_NoPlace kp_BadWord_NoPlace kz_BadWord, PySem.W.exm_ref ke_NoPlace kh_NoPlace kt_NoPlace kp_BadWord_NoPlace, e_BadWord⟩, List.forall_mem_cons.mpr ⟨⟨A_BadWord, A_NoSheet, q_BadWord, q_NoSheet, kit_sub kh_NoSheet kt_NoSheet kp_BadWord_NoSheet kz_BadWord, PySem.W.exm_ref ke_NoSheet kh_NoSheet kt_NoSheet kp_BadWord_NoSheet, e_BadWord⟩, List.forall_mem_cons.mpr ⟨⟨A_BadWord, A_NoVersion, q_BadWord, q_NoVersion, kit_sub kh_NoVersion kt_NoVersion kp_BadWord_NoVersion kz_BadWord, PySem.W.exm_ref ke_NoVersion kh_NoVersion kt_NoVersion kp_BadWord_NoVersion, e_BadWord⟩, List.forall_mem_cons.mpr ⟨⟨A_BadWord, A_NoWords, q_BadWord, q_NoWords, kit_sub kh_NoWords kt_NoWords kp_BadWord_NoWords kz_BadWord, PySem.W.exm_ref ke_NoWords kh_NoWords kt_NoWords kp_BadWord_NoWords, e_BadWord⟩, List.forall_mem_cons.mpr ⟨⟨A_BadWord, A_NothingToUndo, q_BadWord, q_NothingToUndo, kit_sub kh_NothingToUndo kt_NothingToUndo kp_BadWord_NothingToUndo kz_BadWord, PySem.W.exm_ref ke_NothingToUndo kh_NothingToUndo kt_NothingToUndo kp_BadWord_NothingToUndo, e_BadWord⟩, List.forall_mem_cons.mpr ⟨⟨A_BadWord, A_PadError, q_BadWord, q_PadError, kit_sub kh_PadError kt_PadError kp_BadWord_PadError kz_BadWord, PySem.W.exm_ref ke_PadError kh_PadError kt_PadError kp_BadWord_PadError, e_BadWord⟩, List.forall_mem_cons.mpr ⟨⟨A_BadWord, A_Rejected, q_BadWord, q_Rejected, kit_sub kh_Rejected kt_Rejected kp_BadWord_Rejected kz_BadWord, PySem.W.exm_ref ke_Rejected kh_Rejected kt_Rejected kp_BadWord_Rejected, e_BadWord⟩, List.forall_mem_cons.mpr ⟨⟨A_BadWord, A_TooLong, q_BadWord, q_TooLong, kit_sub kh_TooLong kt_TooLong kp_BadWord_TooLong kz_BadWord, PySem.W.exm_ref ke_TooLong kh_TooLong kt_TooLong kp_BadWord_TooLong, e_BadWord⟩, List.forall_mem_cons.mpr ⟨⟨A_BadWord, A_TooManyEdits, q_BadWord, q_TooManyEdits, kit_sub kh_TooManyEdits kt_TooManyEdits kp_BadWord_TooManyEdits kz_BadWord, PySem.W.exm_ref ke_TooManyEdits kh_TooManyEdits kt_TooManyEdits kp_BadWord_TooManyEdits, e_BadWord⟩, List.forall_mem_cons.mpr ⟨⟨A_BadWord, A_TooStrong, q_BadWord, q_TooStrong, kit_sub kh_TooStrong kt_TooStrong kp_BadWord_TooStrong kz_BadWord, PySem.W.exm_ref ke_TooStrong kh_TooStrong kt_TooStrong kp_BadWord_TooStrong, e_BadWord⟩, List.forall_mem_cons.mpr ⟨⟨A_TooLong, A_BadBatch, q_TooLong, q_BadBatch, kit_sub kh_BadBatch kt_BadBatch kp_TooLong_BadBatch kz_TooLong, PySem.W.exm_ref ke_BadBatch kh_BadBatch kt_BadBatch kp_TooLong_BadBatch, e_TooLong⟩, List.forall_mem_cons.mpr ⟨⟨A_TooLong, A_BadForce, q_TooLong, q_BadForce, kit_sub kh_BadForce kt_BadForce kp_TooLong_BadForce kz_TooLong, PySem.W.exm_ref ke_BadForce kh_BadForce kt_BadForce kp_TooLong_BadForce, e_TooLong⟩, List.forall_mem_cons.mpr ⟨⟨A_TooLong, A_BadLetter, q_TooLong, q_BadLetter, kit_sub kh_BadLetter kt_BadLetter kp_TooLong_BadLetter kz_TooLong, PySem.W.exm_ref ke_BadLetter kh_BadLetter kt_BadLetter kp_TooLong_BadLetter, e_TooLong⟩, List.forall_mem_cons.mpr ⟨⟨A_TooLong, A_BadNumber, q_TooLong, q_BadNumber, kit_sub kh_BadNumber kt_BadNumber kp_TooLong_BadNumber kz_TooLong, PySem.W.exm_ref ke_BadNumber kh_BadNumber kt_BadNumber kp_TooLong_BadNumber, e_TooLong⟩, List.forall_mem_cons.mpr ⟨⟨A_TooLong, A_BadOrder, q_TooLong, q_BadOrder, kit_sub kh_BadOrder kt_BadOrder kp_TooLong_BadOrder kz_TooLong, PySem.W.exm_ref ke_BadOrder kh_BadOrder kt_BadOrder kp_TooLong_BadOrder, e_TooLong⟩, List.forall_mem_cons.mpr ⟨⟨A_TooLong, A_BadSheet, q_TooLong, q_BadSheet, kit_sub kh_BadSheet kt_BadSheet kp_TooLong_BadSheet kz_TooLong, PySem.W.exm_ref ke_BadSheet kh_BadSheet kt_BadSheet kp_TooLong_BadSheet, e_TooLong⟩, List.forall_mem_cons.mpr ⟨⟨A_TooLong, A_BadSheets, q_TooLong, q_BadSheets, kit_sub kh_BadSheets kt_BadSheets kp_TooLong_BadSheets kz_TooLong, PySem.W.exm_ref ke_BadSheets kh_BadSheets kt_BadSheets kp_TooLong_BadSheets, e_TooLong⟩, List.forall_mem_cons.mpr ⟨⟨A_TooLong, A_BadText, q_TooLong, q_BadText, kit_sub kh_BadText kt_BadText kp_TooLong_BadText kz_TooLong, PySem.W.exm_ref ke_BadText kh_BadText kt_BadText kp_TooLong_BadText, e_TooLong⟩, List.forall_mem_cons.mpr ⟨⟨A_TooLong, A_BadWord, q_TooLong, q_BadWord, kit_sub kh_BadWord kt_BadWord kp_TooLong_BadWord kz_TooLong, PySem.W.exm_ref ke_BadWord kh_BadWord kt_BadWord kp_TooLong_BadWord, e_TooLong⟩, List.forall_mem_cons.mpr ⟨⟨A_TooLong, A_Busy, q_TooLong, q_Busy, kit_sub kh_Busy kt_Busy kp_TooLong_Busy kz_TooLong, PySem.W.exm_ref ke_Busy kh_Busy kt_Busy kp_TooLong_Busy, e_TooLong⟩, List.forall_mem_cons.mpr ⟨⟨A_TooLong, A_LastSheet, q_TooLong, q_LastSheet, kit_sub kh_LastSheet kt_LastSheet kp_TooLong_LastSheet kz_TooLong, PySem.W.exm_ref ke_LastSheet kh_LastSheet kt_LastSheet kp_TooLong_LastSheet, e_TooLong⟩, List.forall_mem_cons.mpr ⟨⟨A_TooLong, A_NoIndex, q_TooLong, q_NoIndex, kit_sub kh_NoIndex kt_NoIndex kp_TooLong_NoIndex kz_TooLong, PySem.W.exm_ref ke_NoIndex kh_NoIndex kt_NoIndex kp_TooLong_NoIndex, e_TooLong⟩, List.forall_mem_cons.mpr ⟨⟨A_TooLong, A_NoPlace, q_TooLong, q_NoPlace, kit_sub kh_NoPlace kt_NoPlace kp_TooLong_NoPlace kz_TooLong, PySem.W.exm_ref ke_NoPlace kh_NoPlace kt_NoPlace kp_TooLong_NoPlace, e_TooLong⟩, List.forall_mem_cons.mpr ⟨⟨A_TooLong, A_NoSheet, q_TooLong, q_NoSheet, kit_sub kh_NoSheet kt_NoSheet kp_TooLong_NoSheet kz_TooLong, PySem.W.exm_ref ke_NoSheet kh_NoSheet kt_NoSheet kp_TooLong_NoSheet, e_TooLong⟩, List.forall_mem_cons.mpr ⟨⟨A_TooLong, A_NoVersion, q_TooLong, q_NoVersion, kit_sub kh_NoVersion kt_NoVersion kp_TooLong_NoVersion kz_TooLong, PySem.W.exm_ref ke_NoVersion kh_NoVersion kt_NoVersion kp_TooLong_NoVersion, e_TooLong⟩, List.forall_mem_cons.mpr ⟨⟨A_TooLong, A_NoWords, q_TooLong, q_NoWords, kit_sub kh_NoWords kt_NoWords kp_TooLong_NoWords kz_TooLong, PySem.W.exm_ref ke_NoWords kh_NoWords kt_NoWords kp_TooLong_NoWords, e_TooLong⟩, List.forall_mem_cons.mpr ⟨⟨A_TooLong, A_NothingToUndo, q_TooLong, q_NothingToUndo, kit_sub kh_NothingToUndo kt_NothingToUndo kp_TooLong_NothingToUndo kz_TooLong, PySem.W.exm_ref ke_NothingToUndo kh_NothingToUndo kt_NothingToUndo kp_TooLong_NothingToUndo, e_TooLong⟩, List.forall_mem_cons.mpr ⟨⟨A_TooLong, A_PadError, q_TooLong, q_PadError, kit_sub kh_PadError kt_PadError kp_TooLong_PadError kz_TooLong, PySem.W.exm_ref ke_PadError kh_PadError kt_PadError kp_TooLong_PadError, e_TooLong⟩, List.forall_mem_cons.mpr ⟨⟨A_TooLong, A_Rejected, q_TooLong, q_Rejected, kit_sub kh_Rejected kt_Rejected kp_TooLong_Rejected kz_TooLong, PySem.W.exm_ref ke_Rejected kh_Rejected kt_Rejected kp_TooLong_Rejected, e_TooLong⟩, List.forall_mem_cons.mpr ⟨⟨A_TooLong, A_TooLong, q_TooLong, q_TooLong, kit_sub kh_TooLong kt_TooLong kz_TooLong kz_TooLong, PySem.W.exm_ref ke_TooLong kh_TooLong kt_TooLong kz_TooLong, e_TooLong⟩, List.forall_mem_cons.mpr ⟨⟨A_TooLong, A_TooManyEdits, q_TooLong, q_TooManyEdits, kit_sub kh_TooManyEdits kt_TooManyEdits kp_TooLong_TooManyEdits kz_TooLong, PySem.W.exm_ref ke_TooManyEdits kh_TooManyEdits kt_TooManyEdits kp_TooLong_TooManyEdits, e_TooLong⟩, List.forall_mem_cons.mpr ⟨⟨A_TooLong, A_TooStrong, q_TooLong, q_TooStrong, kit_sub kh_TooStrong kt_TooStrong kp_TooLong_TooStrong kz_TooLong, PySem.W.exm_ref ke_TooStrong kh_TooStrong kt_TooStrong kp_TooLong_TooStrong, e_TooLong⟩, List.forall_mem_cons.mpr ⟨⟨A_BadSheet, A_BadBatch, q_BadSheet, q_BadBatch, kit_sub kh_BadBatch kt_BadBatch kp_BadSheet_BadBatch kz_BadSheet, PySem.W.exm_ref ke_BadBatch kh_BadBatch kt_BadBatch kp_BadSheet_BadBatch, e_BadSheet⟩, List.forall_mem_cons.mpr ⟨⟨A_BadSheet, A_BadForce, q_BadSheet, q_BadForce, kit_sub kh_BadForce kt_BadForce kp_BadSheet_BadForce kz_BadSheet, PySem.W.exm_ref ke_BadForce kh_BadForce kt_BadForce kp_BadSheet_BadForce, e_BadSheet⟩, List.forall_mem_cons.mpr ⟨⟨A_BadSheet, A_BadLetter, q_BadSheet, q_BadLetter, kit_sub kh_BadLetter kt_BadLetter kp_BadSheet_BadLetter kz_BadSheet, PySem.W.exm_ref ke_BadLetter kh_BadLetter kt_BadLetter kp_BadSheet_BadLetter, e_BadSheet⟩, List.forall_mem_cons.mpr ⟨⟨A_BadSheet, A_BadNumber, q_BadSheet, q_BadNumber, kit_sub kh_BadNumber kt_BadNumber kp_BadSheet_BadNumber kz_BadSheet, PySem.W.exm_ref ke_BadNumber kh_BadNumber kt_BadNumber kp_BadSheet_BadNumber, e_BadSheet⟩, List.forall_mem_cons.mpr ⟨⟨A_BadSheet, A_BadOrder, q_BadSheet, q_BadOrder, kit_sub kh_BadOrder kt_BadOrder kp_BadSheet_BadOrder kz_BadSheet, PySem.W.exm_ref ke_BadOrder kh_BadOrder kt_BadOrder kp_BadSheet_BadOrder, e_BadSheet⟩, List.forall_mem_cons.mpr ⟨⟨A_BadSheet, A_BadSheet, q_BadSheet, q_BadSheet, kit_sub kh_BadSheet kt_BadSheet kz_BadSheet kz_BadSheet, PySem.W.exm_ref ke_BadSheet kh_BadSheet kt_BadSheet kz_BadSheet, e_BadSheet⟩, List.forall_mem_cons.mpr ⟨⟨A_BadSheet, A_BadSheets, q_BadSheet, q_BadSheets, kit_sub kh_BadSheets kt_BadSheets kp_BadSheet_BadSheets kz_BadSheet, PySem.W.exm_ref ke_BadSheets kh_BadSheets kt_BadSheets kp_BadSheet_BadSheets, e_BadSheet⟩, List.forall_mem_cons.mpr ⟨⟨A_BadSheet, A_BadText, q_BadSheet, q_BadText, kit_sub kh_BadText kt_BadText kp_BadSheet_BadText kz_BadSheet, PySem.W.exm_ref ke_BadText kh_BadText kt_BadText kp_BadSheet_BadText, e_BadSheet⟩, List.forall_mem_cons.mpr ⟨⟨A_BadSheet, A_BadWord, q_BadSheet, q_BadWord, kit_sub kh_BadWord kt_BadWord kp_BadSheet_BadWord kz_BadSheet, PySem.W.exm_ref ke_BadWord kh_BadWord kt_BadWord kp_BadSheet_BadWord, e_BadSheet⟩, List.forall_mem_cons.mpr ⟨⟨A_BadSheet, A_Busy, q_BadSheet, q_Busy, kit_sub kh_Busy kt_Busy kp_BadSheet_Busy kz_BadSheet, PySem.W.exm_ref ke_Busy kh_Busy kt_Busy kp_BadSheet_Busy, e_BadSheet⟩, List.forall_mem_cons.mpr ⟨⟨A_BadSheet, A_LastSheet, q_BadSheet, q_LastSheet, kit_sub kh_LastSheet kt_LastSheet kp_BadSheet_LastSheet kz_BadSheet, PySem.W.exm_ref ke_LastSheet kh_LastSheet kt_LastSheet kp_BadSheet_LastSheet, e_BadSheet⟩, List.forall_mem_cons.mpr ⟨⟨A_BadSheet, A_NoIndex, q_BadSheet, q_NoIndex, kit_sub kh_NoIndex kt_NoIndex kp_BadSheet_NoIndex kz_BadSheet, PySem.W.exm_ref ke_NoIndex kh_NoIndex kt_NoIndex kp_BadSheet_NoIndex, e_BadSheet⟩, List.forall_mem_cons.mpr ⟨⟨A_BadSheet, A_NoPlace, q_BadSheet, q_NoPlace, kit_sub kh_NoPlace kt_NoPlace kp_BadSheet_NoPlace kz_BadSheet, PySem.W.exm_ref ke_NoPlace kh_NoPlace kt_NoPlace kp_BadSheet_NoPlace, e_BadSheet⟩, List.forall_mem_cons.mpr ⟨⟨A_BadSheet, A_NoSheet, q_BadSheet, q_NoSheet, kit_sub kh_NoSheet kt_NoSheet kp_BadSheet_NoSheet kz_BadSheet, PySem.W.exm_ref ke_NoSheet kh_NoSheet kt_NoSheet kp_BadSheet_NoSheet, e_BadSheet⟩, List.forall_mem_cons.mpr ⟨⟨A_BadSheet, A_NoVersion, q_BadSheet, q_NoVersion, kit_sub kh_NoVersion kt_NoVersion kp_BadSheet_NoVersion kz_BadSheet, PySem.W.exm_ref ke_NoVersion kh_NoVersion kt_NoVersion kp_BadSheet_NoVersion, e_BadSheet⟩, List.forall_mem_cons.mpr ⟨⟨A_BadSheet, A_NoWords, q_BadSheet, q_NoWords, kit_sub kh_NoWords kt_NoWords kp_BadSheet_NoWords kz_BadSheet, PySem.W.exm_ref ke_NoWords kh_NoWords kt_NoWords kp_BadSheet_NoWords, e_BadSheet⟩, List.forall_mem_cons.mpr ⟨⟨A_BadSheet, A_NothingToUndo, q_BadSheet, q_NothingToUndo, kit_sub kh_NothingToUndo kt_NothingToUndo kp_BadSheet_NothingToUndo kz_BadSheet, PySem.W.exm_ref ke_NothingToUndo kh_NothingToUndo kt_NothingToUndo kp_BadSheet_NothingToUndo, e_BadSheet⟩, List.forall_mem_cons.mpr ⟨⟨A_BadSheet, A_PadError, q_BadSheet, q_PadError, kit_sub kh_PadError kt_PadError kp_BadSheet_PadError kz_BadSheet, PySem.W.exm_ref ke_PadError kh_PadError kt_PadError kp_BadSheet_PadError, e_BadSheet⟩, List.forall_mem_cons.mpr ⟨⟨A_BadSheet, A_Rejected, q_BadSheet, q_Rejected, kit_sub kh_Rejected kt_Rejected kp_BadSheet_Rejected kz_BadSheet, PySem.W.exm_ref ke_Rejected kh_Rejected kt_Rejected kp_BadSheet_Rejected, e_BadSheet⟩, List.forall_mem_cons.mpr ⟨⟨A_BadSheet, A_TooLong, q_BadSheet, q_TooLong, kit_sub kh_TooLong kt_TooLong kp_BadSheet_TooLong kz_BadSheet, PySem.W.exm_ref ke_TooLong kh_TooLong kt_TooLong kp_BadSheet_TooLong, e_BadSheet⟩, List.forall_mem_cons.mpr ⟨⟨A_BadSheet, A_TooManyEdits, q_BadSheet, q_TooManyEdits, kit_sub kh_TooManyEdits kt_TooManyEdits kp_BadSheet_TooManyEdits kz_BadSheet, PySem.W.exm_ref ke_TooManyEdits kh_TooManyEdits kt_TooManyEdits kp_BadSheet_TooManyEdits, e_BadSheet⟩, List.forall_mem_cons.mpr ⟨⟨A_BadSheet, A_TooStrong, q_BadSheet, q_TooStrong, kit_sub kh_TooStrong kt_TooStrong kp_BadSheet_TooStrong kz_BadSheet, PySem.W.exm_ref ke_TooStrong kh_TooStrong kt_TooStrong kp_BadSheet_TooStrong, e_BadSheet⟩, List.forall_mem_cons.mpr ⟨⟨A_BadSheets, A_BadBatch, q_BadSheets, q_BadBatch, kit_sub kh_BadBatch kt_BadBatch kp_BadSheets_BadBatch kz_BadSheets, PySem.W.exm_ref ke_BadBatch kh_BadBatch kt_BadBatch kp_BadSheets_BadBatch, e_BadSheets⟩, List.forall_mem_cons.mpr ⟨⟨A_BadSheets, A_BadForce, q_BadSheets, q_BadForce, kit_sub kh_BadForce kt_BadForce kp_BadSheets_BadForce kz_BadSheets, PySem.W.exm_ref ke_BadForce kh_BadForce kt_BadForce kp_BadSheets_BadForce, e_BadSheets⟩, List.forall_mem_cons.mpr ⟨⟨A_BadSheets, A_BadLetter, q_BadSheets, q_BadLetter, kit_sub kh_BadLetter kt_BadLetter kp_BadSheets_BadLetter kz_BadSheets, PySem.W.exm_ref ke_BadLetter kh_BadLetter kt_BadLetter kp_BadSheets_BadLetter, e_BadSheets⟩, List.forall_mem_cons.mpr ⟨⟨A_BadSheets, A_BadNumber, q_BadSheets, q_BadNumber, kit_sub kh_BadNumber kt_BadNumber kp_BadSheets_BadNumber kz_BadSheets, PySem.W.exm_ref ke_BadNumber kh_BadNumber kt_BadNumber kp_BadSheets_BadNumber, e_BadSheets⟩, List.forall_mem_cons.mpr ⟨⟨A_BadSheets, A_BadOrder, q_BadSheets, q_BadOrder, kit_sub kh_BadOrder kt_BadOrder kp_BadSheets_BadOrder kz_BadSheets, PySem.W.exm_ref ke_BadOrder kh_BadOrder kt_BadOrder kp_BadSheets_BadOrder, e_BadSheets⟩, List.forall_mem_cons.mpr ⟨⟨A_BadSheets, A_BadSheet, q_BadSheets, q_BadSheet, kit_sub kh_BadSheet kt_BadSheet kp_BadSheets_BadSheet kz_BadSheets, PySem.W.exm_ref ke_BadSheet kh_BadSheet kt_BadSheet kp_BadSheets_BadSheet, e_BadSheets⟩, List.forall_mem_cons.mpr ⟨⟨A_BadSheets, A_BadSheets, q_BadSheets, q_BadSheets, kit_sub kh_BadSheets kt_BadSheets kz_BadSheets kz_BadSheets, PySem.W.exm_ref ke_BadSheets kh_BadSheets kt_BadSheets kz_BadSheets, e_BadSheets⟩, List.forall_mem_cons.mpr ⟨⟨A_BadSheets, A_BadText, q_BadSheets, q_BadText, kit_sub kh_BadText kt_BadText kp_BadSheets_BadText kz_BadSheets, PySem.W.exm_ref ke_BadText kh_BadText kt_BadText kp_BadSheets_BadText, e_BadSheets⟩, List.forall_mem_cons.mpr ⟨⟨A_BadSheets, A_BadWord, q_BadSheets, q_BadWord, kit_sub kh_BadWord kt_BadWord kp_BadSheets_BadWord kz_BadSheets, PySem.W.exm_ref ke_BadWord kh_BadWord kt_BadWord kp_BadSheets_BadWord, e_BadSheets⟩, List.forall_mem_cons.mpr ⟨⟨A_BadSheets, A_Busy, q_BadSheets, q_Busy, kit_sub kh_Busy kt_Busy kp_BadSheets_Busy kz_BadSheets, PySem.W.exm_ref ke_Busy kh_Busy kt_Busy kp_BadSheets_Busy, e_BadSheets⟩, List.forall_mem_cons.mpr ⟨⟨A_BadSheets, A_LastSheet, q_BadSheets, q_LastSheet, kit_sub kh_LastSheet kt_LastSheet kp_BadSheets_LastSheet kz_BadSheets, PySem.W.exm_ref ke_LastSheet kh_LastSheet kt_LastSheet kp_BadSheets_LastSheet, e_BadSheets⟩, List.forall_mem_cons.mpr ⟨⟨A_BadSheets, A_NoIndex, q_BadSheets, q_NoIndex, kit_sub kh_NoIndex kt_NoIndex kp_BadSheets_NoIndex kz_BadSheets, PySem.W.exm_ref ke_NoIndex kh_NoIndex kt_NoIndex kp_BadSheets_NoIndex, e_BadSheets⟩, List.forall_mem_cons.mpr ⟨⟨A_BadSheets, A_NoPlace, q_BadSheets, q_NoPlace, kit_sub kh_NoPlace kt_NoPlace kp_BadSheets_NoPlace kz_BadSheets, PySem.W.exm_ref ke_NoPlace kh_NoPlace kt_NoPlace kp_BadSheets_NoPlace, e_BadSheets⟩, List.forall_mem_cons.mpr ⟨⟨A_BadSheets, A_NoSheet, q_BadSheets, q_NoSheet, kit_sub kh_NoSheet kt_NoSheet kp_BadSheets_NoSheet kz_BadSheets, PySem.W.exm_ref ke_NoSheet kh_NoSheet kt_NoSheet kp_BadSheets_NoSheet, e_BadSheets⟩, List.forall_mem_cons.mpr ⟨⟨A_BadSheets, A_NoVersion, q_BadSheets, q_NoVersion, kit_sub kh_NoVersion kt_NoVersion kp_BadSheets_NoVersion kz_BadSheets, PySem.W.exm_ref ke_NoVersion kh_NoVersion kt_NoVersion kp_BadSheets_NoVersion, e_BadSheets⟩, List.forall_mem_cons.mpr ⟨⟨A_BadSheets, A_NoWords, q_BadSheets, q_NoWords, kit_sub kh_NoWords kt_NoWords kp_BadSheets_NoWords kz_BadSheets, PySem.W.exm_ref ke_NoWords kh_NoWords kt_NoWords kp_BadSheets_NoWords, e_BadSheets⟩, List.forall_mem_cons.mpr ⟨⟨A_BadSheets, A_NothingToUndo, q_BadSheets, q_NothingToUndo, kit_sub kh_NothingToUndo kt_NothingToUndo kp_BadSheets_NothingToUndo kz_BadSheets, PySem.W.exm_ref ke_NothingToUndo kh_NothingToUndo kt_NothingToUndo kp_BadSheets_NothingToUndo, e_BadSheets⟩, List.forall_mem_cons.mpr ⟨⟨A_BadSheets, A_PadError, q_BadSheets, q_PadError, kit_sub kh_PadError kt_PadError kp_BadSheets_PadError kz_BadSheets, PySem.W.exm_ref ke_PadError kh_PadError kt_PadError kp_BadSheets_PadError, e_BadSheets⟩, List.forall_mem_cons.mpr ⟨⟨A_BadSheets, A_Rejected, q_BadSheets, q_Rejected, kit_sub kh_Rejected kt_Rejected kp_BadSheets_Rejected kz_BadSheets, PySem.W.exm_ref ke_Rejected kh_Rejected kt_Rejected kp_BadSheets_Rejected, e_BadSheets⟩, List.forall_mem_cons.mpr ⟨⟨A_BadSheets, A_TooLong, q_BadSheets, q_TooLong, kit_sub kh_TooLong kt_TooLong kp_BadSheets_TooLong kz_BadSheets, PySem.W.exm_ref ke_TooLong kh_TooLong kt_TooLong kp_BadSheets_TooLong, e_BadSheets⟩, List.forall_mem_cons.mpr ⟨⟨A_BadSheets, A_TooManyEdits, q_BadSheets, q_TooManyEdits, kit_sub kh_TooManyEdits kt_TooManyEdits kp_BadSheets_TooManyEdits kz_BadSheets, PySem.W.exm_ref ke_TooManyEdits kh_TooManyEdits kt_TooManyEdits kp_BadSheets_TooManyEdits, e_BadSheets⟩, List.forall_mem_cons.mpr ⟨⟨A_BadSheets, A_TooStrong, q_BadSheets, q_TooStrong, kit_sub kh_TooStrong kt_TooStrong kp_BadSheets_TooStrong kz_BadSheets, PySem.W.exm_ref ke_TooStrong kh_TooStrong kt_TooStrong kp_BadSheets_TooStrong, e_BadSheets⟩, List.forall_mem_cons.mpr ⟨⟨A_BadLetter, A_BadBatch, q_BadLetter, q_BadBatch, kit_sub kh_BadBatch kt_BadBatch kp_BadLetter_BadBatch kz_BadLetter, PySem.W.exm_ref ke_BadBatch kh_BadBatch kt_BadBatch kp_BadLetter_BadBatch, e_BadLetter⟩, List.forall_mem_cons.mpr ⟨⟨A_BadLetter, A_BadForce, q_BadLetter, q_BadForce, kit_sub kh_BadForce kt_BadForce kp_BadLetter_BadForce kz_BadLetter, PySem.W.exm_ref ke_BadForce kh_BadForce kt_BadForce kp_BadLetter_BadForce, e_BadLetter⟩, List.forall_mem_cons.mpr ⟨⟨A_BadLetter, A_BadLetter, q_BadLetter, q_BadLetter, kit_sub kh_BadLetter kt_BadLetter kz_BadLetter kz_BadLetter, PySem.W.exm_ref ke_BadLetter kh_BadLetter kt_BadLetter kz_BadLetter, e_BadLetter⟩, List.forall_mem_cons.mpr ⟨⟨A_BadLetter, A_BadNumber, q_BadLetter, q_BadNumber, kit_sub kh_BadNumber kt_BadNumber kp_BadLetter_BadNumber kz_BadLetter, PySem.W.exm_ref ke_BadNumber kh_BadNumber kt_BadNumber kp_BadLetter_BadNumber, e_BadLetter⟩, List.forall_mem_cons.mpr ⟨⟨A_BadLetter, A_BadOrder, q_BadLetter, q_BadOrder, kit_sub kh_BadOrder kt_BadOrder kp_BadLetter_BadOrder kz_BadLetter, PySem.W.exm_ref ke_BadOrder kh_BadOrder kt_BadOrder kp_BadLetter_BadOrder, e_BadLetter⟩, List.forall_mem_cons.mpr ⟨⟨A_BadLetter, A_BadSheet, q_BadLetter, q_BadSheet, kit_sub kh_BadSheet kt_BadSheet kp_BadLetter_BadSheet kz_BadLetter, PySem.W.exm_ref ke_BadSheet kh_BadSheet kt_BadSheet kp_BadLetter_BadSheet, e_BadLetter⟩, List.forall_mem_cons.mpr ⟨⟨A_BadLetter, A_BadSheets, q_BadLetter, q_BadSheets, kit_sub kh_BadSheets kt_BadSheets kp_BadLetter_BadSheets kz_BadLetter, PySem.W.exm_ref ke_BadSheets kh_BadSheets kt_BadSheets kp_BadLetter_BadSheets, e_BadLetter⟩, List.forall_mem_cons.mpr ⟨⟨A_BadLetter, A_BadText, q_BadLetter, q_BadText, kit_sub kh_BadText kt_BadText kp_BadLetter_BadText kz_BadLetter, PySem.W.exm_ref ke_BadText kh_BadText kt_BadText kp_BadLetter_BadText, e_BadLetter⟩, List.forall_mem_cons.mpr ⟨⟨A_BadLetter, A_BadWord, q_BadLetter, q_BadWord, kit_sub kh_BadWord kt_BadWord kp_BadLetter_BadWord kz_BadLetter, PySem.W.exm_ref ke_BadWord kh_BadWord kt_BadWord kp_BadLetter_BadWord, e_BadLetter⟩, List.forall_mem_cons.mpr ⟨⟨A_BadLetter, A_Busy, q_BadLetter, q_Busy, kit_sub kh_Busy kt_Busy kp_BadLetter_Busy kz_BadLetter, PySem.W.exm_ref ke_Busy kh_Busy kt_Busy kp_BadLetter_Busy, e_BadLetter⟩, List.forall_mem_cons.mpr ⟨⟨A_BadLetter, A_LastSheet, q_BadLetter, q_LastSheet, kit_sub kh_LastSheet kt_LastSheet kp_BadLetter_LastSheet kz_BadLetter, PySem.W.exm_ref ke_LastSheet kh_LastSheet kt_LastSheet kp_BadLetter_LastSheet, e_BadLetter⟩, List.forall_mem_cons.mpr ⟨⟨A_BadLetter, A_NoIndex, q_BadLetter, q_NoIndex, kit_sub kh_NoIndex kt_NoIndex kp_BadLetter_NoIndex kz_BadLetter, PySem.W.exm_ref ke_NoIndex kh_NoIndex kt_NoIndex kp_BadLetter_NoIndex, e_BadLetter⟩, List.forall_mem_cons.mpr ⟨⟨A_BadLetter, A_NoPlace, q_BadLetter, q_NoPlace, kit_sub kh_NoPlace kt_NoPlace kp_BadLetter_NoPlace kz_BadLetter, PySem.W.exm_ref ke_NoPlace kh_NoPlace kt_NoPlace kp_BadLetter_NoPlace, e_BadLetter⟩, List.forall_mem_cons.mpr ⟨⟨A_BadLetter, A_NoSheet, q_BadLetter, q_NoSheet, kit_sub kh_NoSheet kt_NoSheet kp_BadLetter_NoSheet kz_BadLetter, PySem.W.exm_ref ke_NoSheet kh_NoSheet kt_NoSheet kp_BadLetter_NoSheet, e_BadLetter⟩, List.forall_mem_cons.mpr ⟨⟨A_BadLetter, A_NoVersion, q_BadLetter, q_NoVersion, kit_sub kh_NoVersion kt_NoVersion kp_BadLetter_NoVersion kz_BadLetter, PySem.W.exm_ref ke_NoVersion kh_NoVersion kt_NoVersion kp_BadLetter_NoVersion, e_BadLetter⟩, List.forall_mem_cons.mpr ⟨⟨A_BadLetter, A_NoWords, q_BadLetter, q_NoWords, kit_sub kh_NoWords kt_NoWords kp_BadLetter_NoWords kz_BadLetter, PySem.W.exm_ref ke_NoWords kh_NoWords kt_NoWords kp_BadLetter_NoWords, e_BadLetter⟩, List.forall_mem_cons.mpr ⟨⟨A_BadLetter, A_NothingToUndo, q_BadLetter, q_NothingToUndo, kit_sub kh_NothingToUndo kt_NothingToUndo kp_BadLetter_NothingToUndo kz_BadLetter, PySem.W.exm_ref ke_NothingToUndo kh_NothingToUndo kt_NothingToUndo kp_BadLetter_NothingToUndo, e_BadLetter⟩, List.forall_mem_cons.mpr ⟨⟨A_BadLetter, A_PadError, q_BadLetter, q_PadError, kit_sub kh_PadError kt_PadError kp_BadLetter_PadError kz_BadLetter, PySem.W.exm_ref ke_PadError kh_PadError kt_PadError kp_BadLetter_PadError, e_BadLetter⟩, List.forall_mem_cons.mpr ⟨⟨A_BadLetter, A_Rejected, q_BadLetter, q_Rejected, kit_sub kh_Rejected kt_Rejected kp_BadLetter_Rejected kz_BadLetter, PySem.W.exm_ref ke_Rejected kh_Rejected kt_Rejected kp_BadLetter_Rejected, e_BadLetter⟩, List.forall_mem_cons.mpr ⟨⟨A_BadLetter, A_TooLong, q_BadLetter, q_TooLong, kit_sub kh_TooLong kt_TooLong kp_BadLetter_TooLong kz_BadLetter, PySem.W.exm_ref ke_TooLong kh_TooLong kt_TooLong kp_BadLetter_TooLong, e_BadLetter⟩, List.forall_mem_cons.mpr ⟨⟨A_BadLetter, A_TooManyEdits, q_BadLetter, q_TooManyEdits, kit_sub kh_TooManyEdits kt_TooManyEdits kp_BadLetter_TooManyEdits kz_BadLetter, PySem.W.exm_ref ke_TooManyEdits kh_TooManyEdits kt_TooManyEdits kp_BadLetter_TooManyEdits, e_BadLetter⟩, List.forall_mem_cons.mpr ⟨⟨A_BadLetter, A_TooStrong, q_BadLetter, q_TooStrong, kit_sub kh_TooStrong kt_TooStrong kp_BadLetter_TooStrong kz_BadLetter, PySem.W.exm_ref ke_TooStrong kh_TooStrong kt_TooStrong kp_BadLetter_TooStrong, e_BadLetter⟩, List.forall_mem_cons.mpr ⟨⟨A_BadForce, A_BadBatch, q_BadForce, q_BadBatch, kit_sub kh_BadBatch kt_BadBatch kp_BadForce_BadBatch kz_BadForce, PySem.W.exm_ref ke_BadBatch kh_BadBatch kt_BadBatch kp_BadForce_BadBatch, e_BadForce⟩, List.forall_mem_cons.mpr ⟨⟨A_BadForce, A_BadForce, q_BadForce, q_BadForce, kit_sub kh_BadForce kt_BadForce kz_BadForce kz_BadForce, PySem.W.exm_ref ke_BadForce kh_BadForce kt_BadForce kz_BadForce, e_BadForce⟩, List.forall_mem_cons.mpr ⟨⟨A_BadForce, A_BadLetter, q_BadForce, q_BadLetter, kit_sub kh_BadLetter kt_BadLetter kp_BadForce_BadLetter kz_BadForce, PySem.W.exm_ref ke_BadLetter kh_BadLetter kt_BadLetter kp_BadForce_BadLetter, e_BadForce⟩, List.forall_mem_cons.mpr ⟨⟨A_BadForce, A_BadNumber, q_BadForce, q_BadNumber, kit_sub kh_BadNumber kt_BadNumber kp_BadForce_BadNumber kz_BadForce, PySem.W.exm_ref ke_BadNumber kh_BadNumber kt_BadNumber kp_BadForce_BadNumber, e_BadForce⟩, List.forall_mem_cons.mpr ⟨⟨A_BadForce, A_BadOrder, q_BadForce, q_BadOrder, kit_sub kh_BadOrder kt_BadOrder kp_BadForce_BadOrder kz_BadForce, PySem.W.exm_ref ke_BadOrder kh_BadOrder kt_BadOrder kp_BadForce_BadOrder, e_BadForce⟩, List.forall_mem_cons.mpr ⟨⟨A_BadForce, A_BadSheet, q_BadForce, q_BadSheet, kit_sub kh_BadSheet kt_BadSheet kp_BadForce_BadSheet kz_BadForce, PySem.W.exm_ref ke_BadSheet kh_BadSheet kt_BadSheet kp_BadForce_BadSheet, e_BadForce⟩, List.forall_mem_cons.mpr ⟨⟨A_BadForce, A_BadSheets, q_BadForce, q_BadSheets, kit_sub kh_BadSheets kt_BadSheets kp_BadForce_BadSheets kz_BadForce, PySem.W.exm_ref ke_BadSheets kh_BadSheets kt_BadSheets kp_BadForce_BadSheets, e_BadForce⟩, List.forall_mem_cons.mpr ⟨⟨A_BadForce, A_BadText, q_BadForce, q_BadText, kit_sub kh_BadText kt_BadText kp_BadForce_BadText kz_BadForce, PySem.W.exm_ref ke_BadText kh_BadText kt_BadText kp_BadForce_BadText, e_BadForce⟩, List.forall_mem_cons.mpr ⟨⟨A_BadForce, A_BadWord, q_BadForce, q_BadWord, kit_sub kh_BadWord kt_BadWord kp_BadForce_BadWord kz_BadForce, PySem.W.exm_ref ke_BadWord kh_BadWord kt_BadWord kp_BadForce_BadWord, e_BadForce⟩, List.forall_mem_cons.mpr ⟨⟨A_BadForce, A_Busy, q_BadForce, q_Busy, kit_sub kh_Busy kt_Busy kp_BadForce_Busy kz_BadForce, PySem.W.exm_ref ke_Busy kh_Busy kt_Busy kp_BadForce_Busy, e_BadForce⟩, List.forall_mem_cons.mpr ⟨⟨A_BadForce, A_LastSheet, q_BadForce, q_LastSheet, kit_sub kh_LastSheet kt_LastSheet kp_BadForce_LastSheet kz_BadForce, PySem.W.exm_ref ke_LastSheet kh_LastSheet kt_LastSheet kp_BadForce_LastSheet, e_BadForce⟩, List.forall_mem_cons.mpr ⟨⟨A_BadForce, A_NoIndex, q_BadForce, q_NoIndex, kit_sub kh_NoIndex kt_NoIndex kp_BadForce_NoIndex kz_BadForce, PySem.W.exm_ref ke_NoIndex kh_NoIndex kt_NoIndex kp_BadForce_NoIndex, e_BadForce⟩, List.forall_mem_cons.mpr ⟨⟨A_BadForce, A_NoPlace, q_BadForce, q_NoPlace, kit_sub kh_NoPlace kt_NoPlace kp_BadForce_NoPlace kz_BadForce, PySem.W.exm_ref ke_NoPlace kh_NoPlace kt_NoPlace kp_BadForce_NoPlace, e_BadForce⟩, List.forall_mem_cons.mpr ⟨⟨A_BadForce, A_NoSheet, q_BadForce, q_NoSheet, kit_sub kh_NoSheet kt_NoSheet kp_BadForce_NoSheet kz_BadForce, PySem.W.exm_ref ke_NoSheet kh_NoSheet kt_NoSheet kp_BadForce_NoSheet, e_BadForce⟩, List.forall_mem_cons.mpr ⟨⟨A_BadForce, A_NoVersion, q_BadForce, q_NoVersion, kit_sub kh_NoVersion kt_NoVersion kp_BadForce_NoVersion kz_BadForce, PySem.W.exm_ref ke_NoVersion kh_NoVersion kt_NoVersion kp_BadForce_NoVersion, e_BadForce⟩, List.forall_mem_cons.mpr ⟨⟨A_BadForce, A_NoWords, q_BadForce, q_NoWords, kit_sub kh_NoWords kt_NoWords kp_BadForce_NoWords kz_BadForce, PySem.W.exm_ref ke_NoWords kh_NoWords kt_NoWords kp_BadForce_NoWords, e_BadForce⟩, List.forall_mem_cons.mpr ⟨⟨A_BadForce, A_NothingToUndo, q_BadForce, q_NothingToUndo, kit_sub kh_NothingToUndo kt_NothingToUndo kp_BadForce_NothingToUndo kz_BadForce, PySem.W.exm_ref ke_NothingToUndo kh_NothingToUndo kt_NothingToUndo kp_BadForce_NothingToUndo, e_BadForce⟩, List.forall_mem_cons.mpr ⟨⟨A_BadForce, A_PadError, q_BadForce, q_PadError, kit_sub kh_PadError kt_PadError kp_BadForce_PadError kz_BadForce, PySem.W.exm_ref ke_PadError kh_PadError kt_PadError kp_BadForce_PadError, e_BadForce⟩, List.forall_mem_cons.mpr ⟨⟨A_BadForce, A_Rejected, q_BadForce, q_Rejected, kit_sub kh_Rejected kt_Rejected kp_BadForce_Rejected kz_BadForce, PySem.W.exm_ref ke_Rejected kh_Rejected kt_Rejected kp_BadForce_Rejected, e_BadForce⟩, List.forall_mem_cons.mpr ⟨⟨A_BadForce, A_TooLong, q_BadForce, q_TooLong, kit_sub kh_TooLong kt_TooLong kp_BadForce_TooLong kz_BadForce, PySem.W.exm_ref ke_TooLong kh_TooLong kt_TooLong kp_BadForce_TooLong, e_BadForce⟩, List.forall_mem_cons.mpr ⟨⟨A_BadForce, A_TooManyEdits, q_BadForce, q_TooManyEdits, kit_sub kh_TooManyEdits kt_TooManyEdits kp_BadForce_TooManyEdits kz_BadForce, PySem.W.exm_ref ke_TooManyEdits kh_TooManyEdits kt_TooManyEdits kp_BadForce_TooManyEdits, e_BadForce⟩, List.forall_mem_cons.mpr ⟨⟨A_BadForce, A_TooStrong, q_BadForce, q_TooStrong, kit_sub kh_TooStrong kt_TooStrong kp_BadForce_TooStrong kz_BadForce, PySem.W.exm_ref ke_TooStrong kh_TooStrong kt_TooStrong kp_BadForce_TooStrong, e_BadForce⟩, List.forall_mem_cons.mpr ⟨⟨A_TooStrong, A_BadBatch, q_TooStrong, q_BadBatch, kit_sub kh_BadBatch kt_BadBatch kp_TooStrong_BadBatch kz_TooStrong, PySem.W.exm_ref ke_BadBatch kh_BadBatch kt_BadBatch kp_TooStrong_BadBatch, e_TooStrong⟩, List.forall_mem_cons.mpr ⟨⟨A_TooStrong, A_BadForce, q_TooStrong, q_BadForce, kit_sub kh_BadForce kt_BadForce kp_TooStrong_BadForce kz_TooStrong, PySem.W.exm_ref ke_BadForce kh_BadForce kt_BadForce kp_TooStrong_BadForce, e_TooStrong⟩, List.forall_mem_cons.mpr ⟨⟨A_TooStrong, A_BadLetter, q_TooStrong, q_BadLetter, kit_sub kh_BadLetter kt_BadLetter kp_TooStrong_BadLetter kz_TooStrong, PySem.W.exm_ref ke_BadLetter kh_BadLetter kt_BadLetter kp_TooStrong_BadLetter, e_TooStrong⟩, List.forall_mem_cons.mpr ⟨⟨A_TooStrong, A_BadNumber, q_TooStrong, q_BadNumber, kit_sub kh_BadNumber kt_BadNumber kp_TooStrong_BadNumber kz_TooStrong, PySem.W.exm_ref ke_BadNumber kh_BadNumber kt_BadNumber kp_TooStrong_BadNumber, e_TooStrong⟩, List.forall_mem_cons.mpr ⟨⟨A_TooStrong, A_BadOrder, q_TooStrong, q_BadOrder, kit_sub kh_BadOrder kt_BadOrder kp_TooStrong_BadOrder kz_TooStrong, PySem.W.exm_ref ke_BadOrder kh_BadOrder kt_BadOrder kp_TooStrong_BadOrder, e_TooStrong⟩, List.forall_mem_cons.mpr ⟨⟨A_TooStrong, A_BadSheet, q_TooStrong, q_BadSheet, kit_sub kh_BadSheet kt_BadSheet kp_TooStrong_BadSheet kz_TooStrong, PySem.W.exm_ref ke_BadSheet kh_BadSheet kt_BadSheet kp_TooStrong_BadSheet, e_TooStrong⟩, List.forall_mem_cons.mpr ⟨⟨A_TooStrong, A_BadSheets, q_TooStrong, q_BadSheets, kit_sub kh_BadSheets kt_BadSheets kp_TooStrong_BadSheets kz_TooStrong, PySem.W.exm_ref ke_BadSheets kh_BadSheets kt_BadSheets kp_TooStrong_BadSheets, e_TooStrong⟩, List.forall_mem_cons.mpr ⟨⟨A_TooStrong, A_BadText, q_TooStrong, q_BadText, kit_sub kh_BadText kt_BadText kp_TooStrong_BadText kz_TooStrong, PySem.W.exm_ref ke_BadText kh_BadText kt_BadText kp_TooStrong_BadText, e_TooStrong⟩, List.forall_mem_cons.mpr ⟨⟨A_TooStrong, A_BadWord, q_TooStrong, q_BadWord, kit_sub kh_BadWord kt_BadWord kp_TooStrong_BadWord kz_TooStrong, PySem.W.exm_ref ke_BadWord kh_BadWord kt_BadWord kp_TooStrong_BadWord, e_TooStrong⟩, List.forall_mem_cons.mpr ⟨⟨A_TooStrong, A_Busy, q_TooStrong, q_Busy, kit_sub kh_Busy kt_Busy kp_TooStrong_Busy kz_TooStrong, PySem.W.exm_ref ke_Busy kh_Busy kt_Busy kp_TooStrong_Busy, e_TooStrong⟩, List.forall_mem_cons.mpr ⟨⟨A_TooStrong, A_LastSheet, q_TooStrong, q_LastSheet, kit_sub kh_LastSheet kt_LastSheet kp_TooStrong_LastSheet kz_TooStrong, PySem.W.exm_ref ke_LastSheet kh_LastSheet kt_LastSheet kp_TooStrong_LastSheet, e_TooStrong⟩, List.forall_mem_cons.mpr ⟨⟨A_TooStrong, A_NoIndex, q_TooStrong, q_NoIndex, kit_sub kh_NoIndex kt_NoIndex kp_TooStrong_NoIndex kz_TooStrong, PySem.W.exm_ref ke_NoIndex kh_NoIndex kt_NoIndex kp_TooStrong_NoIndex, e_TooStrong⟩, List.forall_mem_cons.mpr ⟨⟨A_TooStrong, A_NoPlace, q_TooStrong, q_NoPlace, kit_sub kh_NoPlace kt_NoPlace kp_TooStrong_NoPlace kz_TooStrong, PySem.W.exm_ref ke_NoPlace kh_NoPlace kt_NoPlace kp_TooStrong_NoPlace, e_TooStrong⟩, List.forall_mem_cons.mpr ⟨⟨A_TooStrong, A_NoSheet, q_TooStrong, q_NoSheet, kit_sub kh_NoSheet kt_NoSheet kp_TooStrong_NoSheet kz_TooStrong, PySem.W.exm_ref ke_NoSheet kh_NoSheet kt_NoSheet kp_TooStrong_NoSheet, e_TooStrong⟩, List.forall_mem_cons.mpr ⟨⟨A_TooStrong, A_NoVersion, q_TooStrong, q_NoVersion, kit_sub kh_NoVersion kt_NoVersion kp_TooStrong_NoVersion kz_TooStrong, PySem.W.exm_ref ke_NoVersion kh_NoVersion kt_NoVersion kp_TooStrong_NoVersion, e_TooStrong⟩, List.forall_mem_cons.mpr ⟨⟨A_TooStrong, A_NoWords, q_TooStrong, q_NoWords, kit_sub kh_NoWords kt_NoWords kp_TooStrong_NoWords kz_TooStrong, PySem.W.exm_ref ke_NoWords kh_NoWords kt_NoWords kp_TooStrong_NoWords, e_TooStrong⟩, List.forall_mem_cons.mpr ⟨⟨A_TooStrong, A_NothingToUndo, q_TooStrong, q_NothingToUndo, kit_sub kh_NothingToUndo kt_NothingToUndo kp_TooStrong_NothingToUndo kz_TooStrong, PySem.W.exm_ref ke_NothingToUndo kh_NothingToUndo kt_NothingToUndo kp_TooStrong_NothingToUndo, e_TooStrong⟩, List.forall_mem_cons.mpr ⟨⟨A_TooStrong, A_PadError, q_TooStrong, q_PadError, kit_sub kh_PadError kt_PadError kp_TooStrong_PadError kz_TooStrong, PySem.W.exm_ref ke_PadError kh_PadError kt_PadError kp_TooStrong_PadError, e_TooStrong⟩, List.forall_mem_cons.mpr ⟨⟨A_TooStrong, A_Rejected, q_TooStrong, q_Rejected, kit_sub kh_Rejected kt_Rejected kp_TooStrong_Rejected kz_TooStrong, PySem.W.exm_ref ke_Rejected kh_Rejected kt_Rejected kp_TooStrong_Rejected, e_TooStrong⟩, List.forall_mem_cons.mpr ⟨⟨A_TooStrong, A_TooLong, q_TooStrong, q_TooLong, kit_sub kh_TooLong kt_TooLong kp_TooStrong_TooLong kz_TooStrong, PySem.W.exm_ref ke_TooLong kh_TooLong kt_TooLong kp_TooStrong_TooLong, e_TooStrong⟩, List.forall_mem_cons.mpr ⟨⟨A_TooStrong, A_TooManyEdits, q_TooStrong, q_TooManyEdits, kit_sub kh_TooManyEdits kt_TooManyEdits kp_TooStrong_TooManyEdits kz_TooStrong, PySem.W.exm_ref ke_TooManyEdits kh_TooManyEdits kt_TooManyEdits kp_TooStrong_TooManyEdits, e_TooStrong⟩, List.forall_mem_cons.mpr ⟨⟨A_TooStrong, A_TooStrong, q_TooStrong, q_TooStrong, kit_sub kh_TooStrong kt_TooStrong kz_TooStrong kz_TooStrong, PySem.W.exm_ref ke_TooStrong kh_TooStrong kt_TooStrong kz_TooStrong, e_TooStrong⟩, List.forall_mem_cons.mpr ⟨⟨A_Rejected, A_BadBatch, q_Rejected, q_BadBatch, kit_sub kh_BadBatch kt_BadBatch kp_Rejected_BadBatch kz_Rejected, PySem.W.exm_ref ke_BadBatch kh_BadBatch kt_BadBatch kp_Rejected_BadBatch, e_Rejected⟩, List.forall_mem_cons.mpr ⟨⟨A_Rejected, A_BadForce, q_Rejected, q_BadForce, kit_sub kh_BadForce kt_BadForce kp_Rejected_BadForce kz_Rejected, PySem.W.exm_ref ke_BadForce kh_BadForce kt_BadForce kp_Rejected_BadForce, e_Rejected⟩, List.forall_mem_cons.mpr ⟨⟨A_Rejected, A_BadLetter, q_Rejected, q_BadLetter, kit_sub kh_BadLetter kt_BadLetter kp_Rejected_BadLetter kz_Rejected, PySem.W.exm_ref ke_BadLetter kh_BadLetter kt_BadLetter kp_Rejected_BadLetter, e_Rejected⟩, List.forall_mem_cons.mpr ⟨⟨A_Rejected, A_BadNumber, q_Rejected, q_BadNumber, kit_sub kh_BadNumber kt_BadNumber kp_Rejected_BadNumber kz_Rejected, PySem.W.exm_ref ke_BadNumber kh_BadNumber kt_BadNumber kp_Rejected_BadNumber, e_Rejected⟩, List.forall_mem_cons.mpr ⟨⟨A_Rejected, A_BadOrder, q_Rejected, q_BadOrder, kit_sub kh_BadOrder kt_BadOrder kp_Rejected_BadOrder kz_Rejected, PySem.W.exm_ref ke_BadOrder kh_BadOrder kt_BadOrder kp_Rejected_BadOrder, e_Rejected⟩, List.forall_mem_cons.mpr ⟨⟨A_Rejected, A_BadSheet, q_Rejected, q_BadSheet, kit_sub kh_BadSheet kt_BadSheet kp_Rejected_BadSheet kz_Rejected, PySem.W.exm_ref ke_BadSheet kh_BadSheet kt_BadSheet kp_Rejected_BadSheet, e_Rejected⟩, List.forall_mem_cons.mpr ⟨⟨A_Rejected, A_BadSheets, q_Rejected, q_BadSheets, kit_sub kh_BadSheets kt_BadSheets kp_Rejected_BadSheets kz_Rejected, PySem.W.exm_ref ke_BadSheets kh_BadSheets kt_BadSheets kp_Rejected_BadSheets, e_Rejected⟩, List.forall_mem_cons.mpr ⟨⟨A_Rejected, A_BadText, q_Rejected, q_BadText, kit_sub kh_BadText kt_BadText kp_Rejected_BadText kz_Rejected, PySem.W.exm_ref ke_BadText kh_BadText kt_BadText kp_Rejected_BadText, e_Rejected⟩, List.forall_mem_cons.mpr ⟨⟨A_Rejected, A_BadWord, q_Rejected, q_BadWord, kit_sub kh_BadWord kt_BadWord kp_Rejected_BadWord kz_Rejected, PySem.W.exm_ref ke_BadWord kh_BadWord kt_BadWord kp_Rejected_BadWord, e_Rejected⟩, List.forall_mem_cons.mpr ⟨⟨A_Rejected, A_Busy, q_Rejected, q_Busy, kit_sub kh_Busy kt_Busy kp_Rejected_Busy kz_Rejected, PySem.W.exm_ref ke_Busy kh_Busy kt_Busy kp_Rejected_Busy, e_Rejected⟩, List.forall_mem_cons.mpr ⟨⟨A_Rejected, A_LastSheet, q_Rejected, q_LastSheet, kit_sub kh_LastSheet kt_LastSheet kp_Rejected_LastSheet kz_Rejected, PySem.W.exm_ref ke_LastSheet kh_LastSheet kt_LastSheet kp_Rejected_LastSheet, e_Rejected⟩, List.forall_mem_cons.mpr ⟨⟨A_Rejected, A_NoIndex, q_Rejected, q_NoIndex, kit_sub kh_NoIndex kt_NoIndex kp_Rejected_NoIndex kz_Rejected, PySem.W.exm_ref ke_NoIndex kh_NoIndex kt_NoIndex kp_Rejected_NoIndex, e_Rejected⟩, List.forall_mem_cons.mpr ⟨⟨A_Rejected, A_NoPlace, q_Rejected, q_NoPlace, kit_sub kh_NoPlace kt_NoPlace kp_Rejected_NoPlace kz_Rejected, PySem.W.exm_ref ke_NoPlace kh_NoPlace kt_NoPlace kp_Rejected_NoPlace, e_Rejected⟩, List.forall_mem_cons.mpr ⟨⟨A_Rejected, A_NoSheet, q_Rejected, q_NoSheet, kit_sub kh_NoSheet kt_NoSheet kp_Rejected_NoSheet kz_Rejected, PySem.W.exm_ref ke_NoSheet kh_NoSheet kt_NoSheet kp_Rejected_NoSheet, e_Rejected⟩, List.forall_mem_cons.mpr ⟨⟨A_Rejected, A_NoVersion, q_Rejected, q_NoVersion, kit_sub kh_NoVersion kt_NoVersion kp_Rejected_NoVersion kz_Rejected, PySem.W.exm_ref ke_NoVersion kh_NoVersion kt_NoVersion kp_Rejected_NoVersion, e_Rejected⟩, List.forall_mem_cons.mpr ⟨⟨A_Rejected, A_NoWords, q_Rejected, q_NoWords, kit_sub kh_NoWords kt_NoWords kp_Rejected_NoWords kz_Rejected, PySem.W.exm_ref ke_NoWords kh_NoWords kt_NoWords kp_Rejected_NoWords, e_Rejected⟩, List.forall_mem_cons.mpr ⟨⟨A_Rejected, A_NothingToUndo, q_Rejected, q_NothingToUndo, kit_sub kh_NothingToUndo kt_NothingToUndo kp_Rejected_NothingToUndo kz_Rejected, PySem.W.exm_ref ke_NothingToUndo kh_NothingToUndo kt_NothingToUndo kp_Rejected_NothingToUndo, e_Rejected⟩, List.forall_mem_cons.mpr ⟨⟨A_Rejected, A_PadError, q_Rejected, q_PadError, kit_sub kh_PadError kt_PadError kp_Rejected_PadError kz_Rejected, PySem.W.exm_ref ke_PadError kh_PadError kt_PadError kp_Rejected_PadError, e_Rejected⟩, List.forall_mem_cons.mpr ⟨⟨A_Rejected, A_Rejected, q_Rejected, q_Rejected, kit_sub kh_Rejected kt_Rejected kz_Rejected kz_Rejected, PySem.W.exm_ref ke_Rejected kh_Rejected kt_Rejected kz_Rejected, e_Rejected⟩, List.forall_mem_cons.mpr ⟨⟨A_Rejected, A_TooLong, q_Rejected, q_TooLong, kit_sub kh_TooLong kt_TooLong kp_Rejected_TooLong kz_Rejected, PySem.W.exm_ref ke_TooLong kh_TooLong kt_TooLong kp_Rejected_TooLong, e_Rejected⟩, List.forall_mem_cons.mpr ⟨⟨A_Rejected, A_TooManyEdits, q_Rejected, q_TooManyEdits, kit_sub kh_TooManyEdits kt_TooManyEdits kp_Rejected_TooManyEdits kz_Rejected, PySem.W.exm_ref ke_TooManyEdits kh_TooManyEdits kt_TooManyEdits kp_Rejected_TooManyEdits, e_Rejected⟩, List.forall_mem_cons.mpr ⟨⟨A_Rejected, A_TooStrong, q_Rejected, q_TooStrong, kit_sub kh_TooStrong kt_TooStrong kp_Rejected_TooStrong kz_Rejected, PySem.W.exm_ref ke_TooStrong kh_TooStrong kt_TooStrong kp_Rejected_TooStrong, e_Rejected⟩, List.forall_mem_cons.mpr ⟨⟨A_BadText, A_BadBatch, q_BadText, q_BadBatch, kit_sub kh_BadBatch kt_BadBatch kp_BadText_BadBatch kz_BadText, PySem.W.exm_ref ke_BadBatch kh_BadBatch kt_BadBatch kp_BadText_BadBatch, e_BadText⟩, List.forall_mem_cons.mpr ⟨⟨A_BadText, A_BadForce, q_BadText, q_BadForce, kit_sub kh_BadForce kt_BadForce kp_BadText_BadForce kz_BadText, PySem.W.exm_ref ke_BadForce kh_BadForce kt_BadForce kp_BadText_BadForce, e_BadText⟩, List.forall_mem_cons.mpr ⟨⟨A_BadText, A_BadLetter, q_BadText, q_BadLetter, kit_sub kh_BadLetter kt_BadLetter kp_BadText_BadLetter kz_BadText, PySem.W.exm_ref ke_BadLetter kh_BadLetter kt_BadLetter kp_BadText_BadLetter, e_BadText⟩, List.forall_mem_cons.mpr ⟨⟨A_BadText, A_BadNumber, q_BadText, q_BadNumber, kit_sub kh_BadNumber kt_BadNumber kp_BadText_BadNumber kz_BadText, PySem.W.exm_ref ke_BadNumber kh_BadNumber kt_BadNumber kp_BadText_BadNumber, e_BadText⟩, List.forall_mem_cons.mpr ⟨⟨A_BadText, A_BadOrder, q_BadText, q_BadOrder, kit_sub kh_BadOrder kt_BadOrder kp_BadText_BadOrder kz_BadText, PySem.W.exm_ref ke_BadOrder kh_BadOrder kt_BadOrder kp_BadText_BadOrder, e_BadText⟩, List.forall_mem_cons.mpr ⟨⟨A_BadText, A_BadSheet, q_BadText, q_BadSheet, kit_sub kh_BadSheet kt_BadSheet kp_BadText_BadSheet kz_BadText, PySem.W.exm_ref ke_BadSheet kh_BadSheet kt_BadSheet kp_BadText_BadSheet, e_BadText⟩, List.forall_mem_cons.mpr ⟨⟨A_BadText, A_BadSheets, q_BadText, q_BadSheets, kit_sub kh_BadSheets kt_BadSheets kp_BadText_BadSheets kz_BadText, PySem.W.exm_ref ke_BadSheets kh_BadSheets kt_BadSheets kp_BadText_BadSheets, e_BadText⟩, List.forall_mem_cons.mpr ⟨⟨A_BadText, A_BadText, q_BadText, q_BadText, kit_sub kh_BadText kt_BadText kz_BadText kz_BadText, PySem.W.exm_ref ke_BadText kh_BadText kt_BadText kz_BadText, e_BadText⟩, List.forall_mem_cons.mpr ⟨⟨A_BadText, A_BadWord, q_BadText, q_BadWord, kit_sub kh_BadWord kt_BadWord kp_BadText_BadWord kz_BadText, PySem.W.exm_ref ke_BadWord kh_BadWord kt_BadWord kp_BadText_BadWord, e_BadText⟩, List.forall_mem_cons.mpr ⟨⟨A_BadText, A_Busy, q_BadText, q_Busy, kit_sub kh_Busy kt_Busy kp_BadText_Busy kz_BadText, PySem.W.exm_ref ke_Busy kh_Busy kt_Busy kp_BadText_Busy, e_BadText⟩, List.forall_mem_cons.mpr ⟨⟨A_BadText, A_LastSheet, q_BadText, q_LastSheet, kit_sub kh_LastSheet kt_LastSheet kp_BadText_LastSheet kz_BadText, PySem.W.exm_ref ke_LastSheet kh_LastSheet kt_LastSheet kp_BadText_LastSheet, e_BadText⟩, List.forall_mem_cons.mpr ⟨⟨A_BadText, A_NoIndex, q_BadText, q_NoIndex, kit_sub kh_NoIndex kt_NoIndex kp_BadText_NoIndex kz_BadText, PySem.W.exm_ref ke_NoIndex kh_NoIndex kt_NoIndex kp_BadText_NoIndex, e_BadText⟩, List.forall_mem_cons.mpr ⟨⟨A_BadText, A_NoPlace, q_BadText, q_NoPlace, kit_sub kh_NoPlace kt_NoPlace kp_BadText_NoPlace kz_BadText, PySem.W.exm_ref ke_NoPlace kh_NoPlace kt_NoPlace kp_BadText_NoPlace, e_BadText⟩, List.forall_mem_cons.mpr ⟨⟨A_BadText, A_NoSheet, q_BadText, q_NoSheet, kit_sub kh_NoSheet kt_NoSheet kp_BadText_NoSheet kz_BadText, PySem.W.exm_ref ke_NoSheet kh_NoSheet kt_NoSheet kp_BadText_NoSheet, e_BadText⟩, List.forall_mem_cons.mpr ⟨⟨A_BadText, A_NoVersion, q_BadText, q_NoVersion, kit_sub kh_NoVersion kt_NoVersion kp_BadText_NoVersion kz_BadText, PySem.W.exm_ref ke_NoVersion kh_NoVersion kt_NoVersion kp_BadText_NoVersion, e_BadText⟩, List.forall_mem_cons.mpr ⟨⟨A_BadText, A_NoWords, q_BadText, q_NoWords, kit_sub kh_NoWords kt_NoWords kp_BadText_NoWords kz_BadText, PySem.W.exm_ref ke_NoWords kh_NoWords kt_NoWords kp_BadText_NoWords, e_BadText⟩, List.forall_mem_cons.mpr ⟨⟨A_BadText, A_NothingToUndo, q_BadText, q_NothingToUndo, kit_sub kh_NothingToUndo kt_NothingToUndo kp_BadText_NothingToUndo kz_BadText, PySem.W.exm_ref ke_NothingToUndo kh_NothingToUndo kt_NothingToUndo kp_BadText_NothingToUndo, e_BadText⟩, List.forall_mem_cons.mpr ⟨⟨A_BadText, A_PadError, q_BadText, q_PadError, kit_sub kh_PadError kt_PadError kp_BadText_PadError kz_BadText, PySem.W.exm_ref ke_PadError kh_PadError kt_PadError kp_BadText_PadError, e_BadText⟩, List.forall_mem_cons.mpr ⟨⟨A_BadText, A_Rejected, q_BadText, q_Rejected, kit_sub kh_Rejected kt_Rejected kp_BadText_Rejected kz_BadText, PySem.W.exm_ref ke_Rejected kh_Rejected kt_Rejected kp_BadText_Rejected, e_BadText⟩, List.forall_mem_cons.mpr ⟨⟨A_BadText, A_TooLong, q_BadText, q_TooLong, kit_sub kh_TooLong kt_TooLong kp_BadText_TooLong kz_BadText, PySem.W.exm_ref ke_TooLong kh_TooLong kt_TooLong kp_BadText_TooLong, e_BadText⟩, List.forall_mem_cons.mpr ⟨⟨A_BadText, A_TooManyEdits, q_BadText, q_TooManyEdits, kit_sub kh_TooManyEdits kt_TooManyEdits kp_BadText_TooManyEdits kz_BadText, PySem.W.exm_ref ke_TooManyEdits kh_TooManyEdits kt_TooManyEdits kp_BadText_TooManyEdits, e_BadText⟩, List.forall_mem_cons.mpr ⟨⟨A_BadText, A_TooStrong, q_BadText, q_TooStrong, kit_sub kh_TooStrong kt_TooStrong kp_BadText_TooStrong kz_BadText, PySem.W.exm_ref ke_TooStrong kh_TooStrong kt_TooStrong kp_BadText_TooStrong, e_BadText⟩, List.forall_mem_cons.mpr ⟨⟨A_NoWords, A_BadBatch, q_NoWords, q_BadBatch, kit_sub kh_BadBatch kt_BadBatch kp_NoWords_BadBatch kz_NoWords, PySem.W.exm_ref ke_BadBatch kh_BadBatch kt_BadBatch kp_NoWords_BadBatch, e_NoWords⟩, List.forall_mem_cons.mpr ⟨⟨A_NoWords, A_BadForce, q_NoWords, q_BadForce, kit_sub kh_BadForce kt_BadForce kp_NoWords_BadForce kz_NoWords, PySem.W.exm_ref ke_BadForce kh_BadForce kt_BadForce kp_NoWords_BadForce, e_NoWords⟩, List.forall_mem_cons.mpr ⟨⟨A_NoWords, A_BadLetter, q_NoWords, q_BadLetter, kit_sub kh_BadLetter kt_BadLetter kp_NoWords_BadLetter kz_NoWords, PySem.W.exm_ref ke_BadLetter kh_BadLetter kt_BadLetter kp_NoWords_BadLetter, e_NoWords⟩, List.forall_mem_cons.mpr ⟨⟨A_NoWords, A_BadNumber, q_NoWords, q_BadNumber, kit_sub kh_BadNumber kt_BadNumber kp_NoWords_BadNumber kz_NoWords, PySem.W.exm_ref ke_BadNumber kh_BadNumber kt_BadNumber kp_NoWords_BadNumber, e_NoWords⟩, List.forall_mem_cons.mpr ⟨⟨A_NoWords, A_BadOrder, q_NoWords, q_BadOrder, kit_sub kh_BadOrder kt_BadOrder kp_NoWords_BadOrder kz_NoWords, PySem.W.exm_ref ke_BadOrder kh_BadOrder kt_BadOrder kp_NoWords_BadOrder, e_NoWords⟩, List.forall_mem_cons.mpr ⟨⟨A_NoWords, A_BadSheet, q_NoWords, q_BadSheet, kit_sub kh_BadSheet kt_BadSheet kp_NoWords_BadSheet kz_NoWords, PySem.W.exm_ref ke_BadSheet kh_BadSheet kt_BadSheet kp_NoWords_BadSheet, e_NoWords⟩, List.forall_mem_cons.mpr ⟨⟨A_NoWords, A_BadSheets, q_NoWords, q_BadSheets, kit_sub kh_BadSheets kt_BadSheets kp_NoWords_BadSheets kz_NoWords, PySem.W.exm_ref ke_BadSheets kh_BadSheets kt_BadSheets kp_NoWords_BadSheets, e_NoWords⟩, List.forall_mem_cons.mpr ⟨⟨A_NoWords, A_BadText, q_NoWords, q_BadText, kit_sub kh_BadText kt_BadText kp_NoWords_BadText kz_NoWords, PySem.W.exm_ref ke_BadText kh_BadText kt_BadText kp_NoWords_BadText, e_NoWords⟩, List.forall_mem_cons.mpr ⟨⟨A_NoWords, A_BadWord, q_NoWords, q_BadWord, kit_sub kh_BadWord kt_BadWord kp_NoWords_BadWord kz_NoWords, PySem.W.exm_ref ke_BadWord kh_BadWord kt_BadWord kp_NoWords_BadWord, e_NoWords⟩, List.forall_mem_cons.mpr ⟨⟨A_NoWords, A_Busy, q_NoWords, q_Busy, kit_sub kh_Busy kt_Busy kp_NoWords_Busy kz_NoWords, PySem.W.exm_ref ke_Busy kh_Busy kt_Busy kp_NoWords_Busy, e_NoWords⟩, List.forall_mem_cons.mpr ⟨⟨A_NoWords, A_LastSheet, q_NoWords, q_LastSheet, kit_sub kh_LastSheet kt_LastSheet kp_NoWords_LastSheet kz_NoWords, PySem.W.exm_ref ke_LastSheet kh_LastSheet kt_LastSheet kp_NoWords_LastSheet, e_NoWords⟩, List.forall_mem_cons.mpr ⟨⟨A_NoWords, A_NoIndex, q_NoWords, q_NoIndex, kit_sub kh_NoIndex kt_NoIndex kp_NoWords_NoIndex kz_NoWords, PySem.W.exm_ref ke_NoIndex kh_NoIndex kt_NoIndex kp_NoWords_NoIndex, e_NoWords⟩, List.forall_mem_cons.mpr ⟨⟨A_NoWords, A_NoPlace, q_NoWords, q_NoPlace, kit_sub kh_NoPlace kt_NoPlace kp_NoWords_NoPlace kz_NoWords, PySem.W.exm_ref ke_NoPlace kh_NoPlace kt_NoPlace kp_NoWords_NoPlace, e_NoWords⟩, List.forall_mem_cons.mpr ⟨⟨A_NoWords, A_NoSheet, q_NoWords, q_NoSheet, kit_sub kh_NoSheet kt_NoSheet kp_NoWords_NoSheet kz_NoWords, PySem.W.exm_ref ke_NoSheet kh_NoSheet kt_NoSheet kp_NoWords_NoSheet, e_NoWords⟩, List.forall_mem_cons.mpr ⟨⟨A_NoWords, A_NoVersion, q_NoWords, q_NoVersion, kit_sub kh_NoVersion kt_NoVersion kp_NoWords_NoVersion kz_NoWords, PySem.W.exm_ref ke_NoVersion kh_NoVersion kt_NoVersion kp_NoWords_NoVersion, e_NoWords⟩, List.forall_mem_cons.mpr ⟨⟨A_NoWords, A_NoWords, q_NoWords, q_NoWords, kit_sub kh_NoWords kt_NoWords kz_NoWords kz_NoWords, PySem.W.exm_ref ke_NoWords kh_NoWords kt_NoWords kz_NoWords, e_NoWords⟩, List.forall_mem_cons.mpr ⟨⟨A_NoWords, A_NothingToUndo, q_NoWords, q_NothingToUndo, kit_sub kh_NothingToUndo kt_NothingToUndo kp_NoWords_NothingToUndo kz_NoWords, PySem.W.exm_ref ke_NothingToUndo kh_NothingToUndo kt_NothingToUndo kp_NoWords_NothingToUndo, e_NoWords⟩, List.forall_mem_cons.mpr ⟨⟨A_NoWords, A_PadError, q_NoWords, q_PadError, kit_sub kh_PadError kt_PadError kp_NoWords_PadError kz_NoWords, PySem.W.exm_ref ke_PadError kh_PadError kt_PadError kp_NoWords_PadError, e_NoWords⟩, List.forall_mem_cons.mpr ⟨⟨A_NoWords, A_Rejected, q_NoWords, q_Rejected, kit_sub kh_Rejected kt_Rejected kp_NoWords_Rejected kz_NoWords, PySem.W.exm_ref ke_Rejected kh_Rejected kt_Rejected kp_NoWords_Rejected, e_NoWords⟩, List.forall_mem_cons.mpr ⟨⟨A_NoWords, A_TooLong, q_NoWords, q_TooLong, kit_sub kh_TooLong kt_TooLong kp_NoWords_TooLong kz_NoWords, PySem.W.exm_ref ke_TooLong kh_TooLong kt_TooLong kp_NoWords_TooLong, e_NoWords⟩, List.forall_mem_cons.mpr ⟨⟨A_NoWords, A_TooManyEdits, q_NoWords, q_TooManyEdits, kit_sub kh_TooManyEdits kt_TooManyEdits kp_NoWords_TooManyEdits kz_NoWords, PySem.W.exm_ref ke_TooManyEdits kh_TooManyEdits kt_TooManyEdits kp_NoWords_TooManyEdits, e_NoWords⟩, List.forall_mem_cons.mpr ⟨⟨A_NoWords, A_TooStrong, q_NoWords, q_TooStrong, kit_sub kh_TooStrong kt_TooStrong kp_NoWords_TooStrong kz_NoWords, PySem.W.exm_ref ke_TooStrong kh_TooStrong kt_TooStrong kp_NoWords_TooStrong, e_NoWords⟩, List.forall_mem_cons.mpr ⟨⟨A_LastSheet, A_BadBatch, q_LastSheet, q_BadBatch, kit_sub kh_BadBatch kt_BadBatch kp_LastSheet_BadBatch kz_LastSheet, PySem.W.exm_ref ke_BadBatch kh_BadBatch kt_BadBatch kp_LastSheet_BadBatch, e_LastSheet⟩, List.forall_mem_cons.mpr ⟨⟨A_LastSheet, A_BadForce, q_LastSheet, q_BadForce, kit_sub kh_BadForce kt_BadForce kp_LastSheet_BadForce kz_LastSheet, PySem.W.exm_ref ke_BadForce kh_BadForce kt_BadForce kp_LastSheet_BadForce, e_LastSheet⟩, List.forall_mem_cons.mpr ⟨⟨A_LastSheet, A_BadLetter, q_LastSheet, q_BadLetter, kit_sub kh_BadLetter kt_BadLetter kp_LastSheet_BadLetter kz_LastSheet, PySem.W.exm_ref ke_BadLetter kh_BadLetter kt_BadLetter kp_LastSheet_BadLetter, e_LastSheet⟩, List.forall_mem_cons.mpr ⟨⟨A_LastSheet, A_BadNumber, q_LastSheet, q_BadNumber, kit_sub kh_BadNumber kt_BadNumber kp_LastSheet_BadNumber kz_LastSheet, PySem.W.exm_ref ke_BadNumber kh_BadNumber kt_BadNumber kp_LastSheet_BadNumber, e_LastSheet⟩, List.forall_mem_cons.mpr ⟨⟨A_LastSheet, A_BadOrder, q_LastSheet, q_BadOrder, kit_sub kh_BadOrder kt_BadOrder kp_LastSheet_BadOrder kz_LastSheet, PySem.W.exm_ref ke_BadOrder kh_BadOrder kt_BadOrder kp_LastSheet_BadOrder, e_LastSheet⟩, List.forall_mem_cons.mpr ⟨⟨A_LastSheet, A_BadSheet, q_LastSheet, q_BadSheet, kit_sub kh_BadSheet kt_BadSheet kp_LastSheet_BadSheet kz_LastSheet, PySem.W.exm_ref ke_BadSheet kh_BadSheet kt_BadSheet kp_LastSheet_BadSheet, e_LastSheet⟩, List.forall_mem_cons.mpr ⟨⟨A_LastSheet, A_BadSheets, q_LastSheet, q_BadSheets, kit_sub kh_BadSheets kt_BadSheets kp_LastSheet_BadSheets kz_LastSheet, PySem.W.exm_ref ke_BadSheets kh_BadSheets kt_BadSheets kp_LastSheet_BadSheets, e_LastSheet⟩, List.forall_mem_cons.mpr ⟨⟨A_LastSheet, A_BadText, q_LastSheet, q_BadText, kit_sub kh_BadText kt_BadText kp_LastSheet_BadText kz_LastSheet, PySem.W.exm_ref ke_BadText kh_BadText kt_BadText kp_LastSheet_BadText, e_LastSheet⟩, List.forall_mem_cons.mpr ⟨⟨A_LastSheet, A_BadWord, q_LastSheet, q_BadWord, kit_sub kh_BadWord kt_BadWord kp_LastSheet_BadWord kz_LastSheet, PySem.W.exm_ref ke_BadWord kh_BadWord kt_BadWord kp_LastSheet_BadWord, e_LastSheet⟩, List.forall_mem_cons.mpr ⟨⟨A_LastSheet, A_Busy, q_LastSheet, q_Busy, kit_sub kh_Busy kt_Busy kp_LastSheet_Busy kz_LastSheet, PySem.W.exm_ref ke_Busy kh_Busy kt_Busy kp_LastSheet_Busy, e_LastSheet⟩, List.forall_mem_cons.mpr ⟨⟨A_LastSheet, A_LastSheet, q_LastSheet, q_LastSheet, kit_sub kh_LastSheet kt_LastSheet kz_LastSheet kz_LastSheet, PySem.W.exm_ref ke_LastSheet kh_LastSheet kt_LastSheet kz_LastSheet, e_LastSheet⟩, List.forall_mem_cons.mpr ⟨⟨A_LastSheet, A_NoIndex, q_LastSheet, q_NoIndex, kit_sub kh_NoIndex kt_NoIndex kp_LastSheet_NoIndex kz_LastSheet, PySem.W.exm_ref ke_NoIndex kh_NoIndex kt_NoIndex kp_LastSheet_NoIndex, e_LastSheet⟩, List.forall_mem_cons.mpr ⟨⟨A_LastSheet, A_NoPlace, q_LastSheet, q_NoPlace, kit_sub kh_NoPlace kt_NoPlace kp_LastSheet_NoPlace kz_LastSheet, PySem.W.exm_ref ke_NoPlace kh_NoPlace kt_NoPlace kp_LastSheet_NoPlace, e_LastSheet⟩, List.forall_mem_cons.mpr ⟨⟨A_LastSheet, A_NoSheet, q_LastSheet, q_NoSheet, kit_sub kh_NoSheet kt_NoSheet kp_LastSheet_NoSheet kz_LastSheet, PySem.W.exm_ref ke_NoSheet kh_NoSheet kt_NoSheet kp_LastSheet_NoSheet, e_LastSheet⟩, List.forall_mem_cons.mpr ⟨⟨A_LastSheet, A_NoVersion, q_LastSheet, q_NoVersion, kit_sub kh_NoVersion kt_NoVersion kp_LastSheet_NoVersion kz_LastSheet, PySem.W.exm_ref ke_NoVersion kh_NoVersion kt_NoVersion kp_LastSheet_NoVersion, e_LastSheet⟩, List.forall_mem_cons.mpr ⟨⟨A_LastSheet, A_NoWords, q_LastSheet, q_NoWords, kit_sub kh_NoWords kt_NoWords kp_LastSheet_NoWords kz_LastSheet, PySem.W.exm_ref ke_NoWords kh_NoWords kt_NoWords kp_LastSheet_NoWords, e_LastSheet⟩, List.forall_mem_cons.mpr ⟨⟨A_LastSheet, A_NothingToUndo, q_LastSheet, q_NothingToUndo, kit_sub kh_NothingToUndo kt_NothingToUndo kp_LastSheet_NothingToUndo kz_LastSheet, PySem.W.exm_ref ke_NothingToUndo kh_NothingToUndo kt_NothingToUndo kp_LastSheet_NothingToUndo, e_LastSheet⟩, List.forall_mem_cons.mpr ⟨⟨A_LastSheet, A_PadError, q_LastSheet, q_PadError, kit_sub kh_PadError kt_PadError kp_LastSheet_PadError kz_LastSheet, PySem.W.exm_ref ke_PadError kh_PadError kt_PadError kp_LastSheet_PadError, e_LastSheet⟩, List.forall_mem_cons.mpr ⟨⟨A_LastSheet, A_Rejected, q_LastSheet, q_Rejected, kit_sub kh_Rejected kt_Rejected kp_LastSheet_Rejected kz_LastSheet, PySem.W.exm_ref ke_Rejected kh_Rejected kt_Rejected kp_LastSheet_Rejected, e_LastSheet⟩, List.forall_mem_cons.mpr ⟨⟨A_LastSheet, A_TooLong, q_LastSheet, q_TooLong, kit_sub kh_TooLong kt_TooLong kp_LastSheet_TooLong kz_LastSheet, PySem.W.exm_ref ke_TooLong kh_TooLong kt_TooLong kp_LastSheet_TooLong, e_LastSheet⟩, List.forall_mem_cons.mpr ⟨⟨A_LastSheet, A_TooManyEdits, q_LastSheet, q_TooManyEdits, kit_sub kh_TooManyEdits kt_TooManyEdits kp_LastSheet_TooManyEdits kz_LastSheet, PySem.W.exm_ref ke_TooManyEdits kh_TooManyEdits kt_TooManyEdits kp_LastSheet_TooManyEdits, e_LastSheet⟩, List.forall_mem_cons.mpr ⟨⟨A_LastSheet, A_TooStrong, q_LastSheet, q_TooStrong, kit_sub kh_TooStrong kt_TooStrong kp_LastSheet_TooStrong kz_LastSheet, PySem.W.exm_ref ke_TooStrong kh_TooStrong kt_TooStrong kp_LastSheet_TooStrong, e_LastSheet⟩, List.forall_mem_cons.mpr ⟨⟨A_Busy, A_BadBatch, q_Busy, q_BadBatch, kit_sub kh_BadBatch kt_BadBatch kp_Busy_BadBatch kz_Busy, PySem.W.exm_ref ke_BadBatch kh_BadBatch kt_BadBatch kp_Busy_BadBatch, e_Busy⟩, List.forall_mem_cons.mpr ⟨⟨A_Busy, A_BadForce, q_Busy, q_BadForce, kit_sub kh_BadForce kt_BadForce kp_Busy_BadForce kz_Busy, PySem.W.exm_ref ke_BadForce kh_BadForce kt_BadForce kp_Busy_BadForce, e_Busy⟩, List.forall_mem_cons.mpr ⟨⟨A_Busy, A_BadLetter, q_Busy, q_BadLetter, kit_sub kh_BadLetter kt_BadLetter kp_Busy_BadLetter kz_Busy, PySem.W.exm_ref ke_BadLetter kh_BadLetter kt_BadLetter kp_Busy_BadLetter, e_Busy⟩, List.forall_mem_cons.mpr ⟨⟨A_Busy, A_BadNumber, q_Busy, q_BadNumber, kit_sub kh_BadNumber kt_BadNumber kp_Busy_BadNumber kz_Busy, PySem.W.exm_ref ke_BadNumber kh_BadNumber kt_BadNumber kp_Busy_BadNumber, e_Busy⟩, List.forall_mem_cons.mpr ⟨⟨A_Busy, A_BadOrder, q_Busy, q_BadOrder, kit_sub kh_BadOrder kt_BadOrder kp_Busy_BadOrder kz_Busy, PySem.W.exm_ref ke_BadOrder kh_BadOrder kt_BadOrder kp_Busy_BadOrder, e_Busy⟩, List.forall_mem_cons.mpr ⟨⟨A_Busy, A_BadSheet, q_Busy, q_BadSheet, kit_sub kh_BadSheet kt_BadSheet kp_Busy_BadSheet kz_Busy, PySem.W.exm_ref ke_BadSheet kh_BadSheet kt_BadSheet kp_Busy_BadSheet, e_Busy⟩, List.forall_mem_cons.mpr ⟨⟨A_Busy, A_BadSheets, q_Busy, q_BadSheets, kit_sub kh_BadSheets kt_BadSheets kp_Busy_BadSheets kz_Busy, PySem.W.exm_ref ke_BadSheets kh_BadSheets kt_BadSheets kp_Busy_BadSheets, e_Busy⟩, List.forall_mem_cons.mpr ⟨⟨A_Busy, A_BadText, q_Busy, q_BadText, kit_sub kh_BadText kt_BadText kp_Busy_BadText kz_Busy, PySem.W.exm_ref ke_BadText kh_BadText kt_BadText kp_Busy_BadText, e_Busy⟩, List.forall_mem_cons.mpr ⟨⟨A_Busy, A_BadWord, q_Busy, q_BadWord, kit_sub kh_BadWord kt_BadWord kp_Busy_BadWord kz_Busy, PySem.W.exm_ref ke_BadWord kh_BadWord kt_BadWord kp_Busy_BadWord, e_Busy⟩, List.forall_mem_cons.mpr ⟨⟨A_Busy, A_Busy, q_Busy, q_Busy, kit_sub kh_Busy kt_Busy kz_Busy kz_Busy, PySem.W.exm_ref ke_Busy kh_Busy kt_Busy kz_Busy, e_Busy⟩, List.forall_mem_cons.mpr ⟨⟨A_Busy, A_LastSheet, q_Busy, q_LastSheet, kit_sub kh_LastSheet kt_LastSheet kp_Busy_LastSheet kz_Busy, PySem.W.exm_ref ke_LastSheet kh_LastSheet kt_LastSheet kp_Busy_LastSheet, e_Busy⟩, List.forall_mem_cons.mpr ⟨⟨A_Busy, A_NoIndex, q_Busy, q_NoIndex, kit_sub kh_NoIndex kt_NoIndex kp_Busy_NoIndex kz_Busy, PySem.W.exm_ref ke_NoIndex kh_NoIndex kt_NoIndex kp_Busy_NoIndex, e_Busy⟩, List.forall_mem_cons.mpr ⟨⟨A_Busy, A_NoPlace, q_Busy, q_NoPlace, kit_sub kh_NoPlace kt_NoPlace kp_Busy_NoPlace kz_Busy, PySem.W.exm_ref ke_NoPlace kh_NoPlace kt_NoPlace kp_Busy_NoPlace, e_Busy⟩, List.forall_mem_cons.mpr ⟨⟨A_Busy, A_NoSheet, q_Busy, q_NoSheet, kit_sub kh_NoSheet kt_NoSheet kp_Busy_NoSheet kz_Busy, PySem.W.exm_ref ke_NoSheet kh_NoSheet kt_NoSheet kp_Busy_NoSheet, e_Busy⟩, List.forall_mem_cons.mpr ⟨⟨A_Busy, A_NoVersion, q_Busy, q_NoVersion, kit_sub kh_NoVersion kt_NoVersion kp_Busy_NoVersion kz_Busy, PySem.W.exm_ref ke_NoVersion kh_NoVersion kt_NoVersion kp_Busy_NoVersion, e_Busy⟩, List.forall_mem_cons.mpr ⟨⟨A_Busy, A_NoWords, q_Busy, q_NoWords, kit_sub kh_NoWords kt_NoWords kp_Busy_NoWords kz_Busy, PySem.W.exm_ref ke_NoWords kh_NoWords kt_NoWords kp_Busy_NoWords, e_Busy⟩, List.forall_mem_cons.mpr ⟨⟨A_Busy, A_NothingToUndo, q_Busy, q_NothingToUndo, kit_sub kh_NothingToUndo kt_NothingToUndo kp_Busy_NothingToUndo kz_Busy, PySem.W.exm_ref ke_NothingToUndo kh_NothingToUndo kt_NothingToUndo kp_Busy_NothingToUndo, e_Busy⟩, List.forall_mem_cons.mpr ⟨⟨A_Busy, A_PadError, q_Busy, q_PadError, kit_sub kh_PadError kt_PadError kp_Busy_PadError kz_Busy, PySem.W.exm_ref ke_PadError kh_PadError kt_PadError kp_Busy_PadError, e_Busy⟩, List.forall_mem_cons.mpr ⟨⟨A_Busy, A_Rejected, q_Busy, q_Rejected, kit_sub kh_Rejected kt_Rejected kp_Busy_Rejected kz_Busy, PySem.W.exm_ref ke_Rejected kh_Rejected kt_Rejected kp_Busy_Rejected, e_Busy⟩, List.forall_mem_cons.mpr ⟨⟨A_Busy, A_TooLong, q_Busy, q_TooLong, kit_sub kh_TooLong kt_TooLong kp_Busy_TooLong kz_Busy, PySem.W.exm_ref ke_TooLong kh_TooLong kt_TooLong kp_Busy_TooLong, e_Busy⟩, List.forall_mem_cons.mpr ⟨⟨A_Busy, A_TooManyEdits, q_Busy, q_TooManyEdits, kit_sub kh_TooManyEdits kt_TooManyEdits kp_Busy_TooManyEdits kz_Busy, PySem.W.exm_ref ke_TooManyEdits kh_TooManyEdits kt_TooManyEdits kp_Busy_TooManyEdits, e_Busy⟩, List.forall_mem_cons.mpr ⟨⟨A_Busy, A_TooStrong, q_Busy, q_TooStrong, kit_sub kh_TooStrong kt_TooStrong kp_Busy_TooStrong kz_Busy, PySem.W.exm_ref ke_TooStrong kh_TooStrong kt_TooStrong kp_Busy_TooStrong, e_Busy⟩, List.forall_mem_cons.mpr ⟨⟨A_TooManyEdits, A_BadBatch, q_TooManyEdits, q_BadBatch, kit_sub kh_BadBatch kt_BadBatch kp_TooManyEdits_BadBatch kz_TooManyEdits, PySem.W.exm_ref ke_BadBatch kh_BadBatch kt_BadBatch kp_TooManyEdits_BadBatch, e_TooManyEdits⟩, List.forall_mem_cons.mpr ⟨⟨A_TooManyEdits, A_BadForce, q_TooManyEdits, q_BadForce, kit_sub kh_BadForce kt_BadForce kp_TooManyEdits_BadForce kz_TooManyEdits, PySem.W.exm_ref ke_BadForce kh_BadForce kt_BadForce kp_TooManyEdits_BadForce, e_TooManyEdits⟩, List.forall_mem_cons.mpr ⟨⟨A_TooManyEdits, A_BadLetter, q_TooManyEdits, q_BadLetter, kit_sub kh_BadLetter kt_BadLetter kp_TooManyEdits_BadLetter kz_TooManyEdits, PySem.W.exm_ref ke_BadLetter kh_BadLetter kt_BadLetter kp_TooManyEdits_BadLetter, e_TooManyEdits⟩, List.forall_mem_cons.mpr ⟨⟨A_TooManyEdits, A_BadNumber, q_TooManyEdits, q_BadNumber, kit_sub kh_BadNumber kt_BadNumber kp_TooManyEdits_BadNumber kz_TooManyEdits, PySem.W.exm_ref ke_BadNumber kh_BadNumber kt_BadNumber kp_TooManyEdits_BadNumber, e_TooManyEdits⟩, List.forall_mem_cons.mpr ⟨⟨A_TooManyEdits, A_BadOrder, q_TooManyEdits, q_BadOrder, kit_sub kh_BadOrder kt_BadOrder kp_TooManyEdits_BadOrder kz_TooManyEdits, PySem.W.exm_ref ke_BadOrder kh_BadOrder kt_BadOrder kp_TooManyEdits_BadOrder, e_TooManyEdits⟩, List.forall_mem_cons.mpr ⟨⟨A_TooManyEdits, A_BadSheet, q_TooManyEdits, q_BadSheet, kit_sub kh_BadSheet kt_BadSheet kp_TooManyEdits_BadSheet kz_TooManyEdits, PySem.W.exm_ref ke_BadSheet kh_BadSheet kt_BadSheet kp_TooManyEdits_BadSheet, e_TooManyEdits⟩, List.forall_mem_cons.mpr ⟨⟨A_TooManyEdits, A_BadSheets, q_TooManyEdits, q_BadSheets, kit_sub kh_BadSheets kt_BadSheets kp_TooManyEdits_BadSheets kz_TooManyEdits, PySem.W.exm_ref ke_BadSheets kh_BadSheets kt_BadSheets kp_TooManyEdits_BadSheets, e_TooManyEdits⟩, List.forall_mem_cons.mpr ⟨⟨A_TooManyEdits, A_BadText, q_TooManyEdits, q_BadText, kit_sub kh_BadText kt_BadText kp_TooManyEdits_BadText kz_TooManyEdits, PySem.W.exm_ref ke_BadText kh_BadText kt_BadText kp_TooManyEdits_BadText, e_TooManyEdits⟩, List.forall_mem_cons.mpr ⟨⟨A_TooManyEdits, A_BadWord, q_TooManyEdits, q_BadWord, kit_sub kh_BadWord kt_BadWord kp_TooManyEdits_BadWord kz_TooManyEdits, PySem.W.exm_ref ke_BadWord kh_BadWord kt_BadWord kp_TooManyEdits_BadWord, e_TooManyEdits⟩, List.forall_mem_cons.mpr ⟨⟨A_TooManyEdits, A_Busy, q_TooManyEdits, q_Busy, kit_sub kh_Busy kt_Busy kp_TooManyEdits_Busy kz_TooManyEdits, PySem.W.exm_ref ke_Busy kh_Busy kt_Busy kp_TooManyEdits_Busy, e_TooManyEdits⟩, List.forall_mem_cons.mpr ⟨⟨A_TooManyEdits, A_LastSheet, q_TooManyEdits, q_LastSheet, kit_sub kh_LastSheet kt_LastSheet kp_TooManyEdits_LastSheet kz_TooManyEdits, PySem.W.exm_ref ke_LastSheet kh_LastSheet kt_LastSheet kp_TooManyEdits_LastSheet, e_TooManyEdits⟩, List.forall_mem_cons.mpr ⟨⟨A_TooManyEdits, A_NoIndex, q_TooManyEdits, q_NoIndex, kit_sub kh_NoIndex kt_NoIndex kp_TooManyEdits_NoIndex kz_TooManyEdits, PySem.W.exm_ref ke_NoIndex kh_NoIndex kt_NoIndex kp_TooManyEdits_NoIndex, e_TooManyEdits⟩, List.forall_mem_cons.mpr ⟨⟨A_TooManyEdits, A_NoPlace, q_TooManyEdits, q_NoPlace, kit_sub kh_NoPlace kt_NoPlace kp_TooManyEdits_NoPlace kz_TooManyEdits, PySem.W.exm_ref ke_NoPlace kh_NoPlace kt_NoPlace kp_TooManyEdits_NoPlace, e_TooManyEdits⟩, List.forall_mem_cons.mpr ⟨⟨A_TooManyEdits, A_NoSheet, q_TooManyEdits, q_NoSheet, kit_sub kh_NoSheet kt_NoSheet kp_TooManyEdits_NoSheet kz_TooManyEdits, PySem.W.exm_ref ke_NoSheet kh_NoSheet kt_NoSheet kp_TooManyEdits_NoSheet, e_TooManyEdits⟩, List.forall_mem_cons.mpr ⟨⟨A_TooManyEdits, A_NoVersion, q_TooManyEdits, q_NoVersion, kit_sub kh_NoVersion kt_NoVersion kp_TooManyEdits_NoVersion kz_TooManyEdits, PySem.W.exm_ref ke_NoVersion kh_NoVersion kt_NoVersion kp_TooManyEdits_NoVersion, e_TooManyEdits⟩, List.forall_mem_cons.mpr ⟨⟨A_TooManyEdits, A_NoWords, q_TooManyEdits, q_NoWords, kit_sub kh_NoWords kt_NoWords kp_TooManyEdits_NoWords kz_TooManyEdits, PySem.W.exm_ref ke_NoWords kh_NoWords kt_NoWords kp_TooManyEdits_NoWords, e_TooManyEdits⟩, List.forall_mem_cons.mpr ⟨⟨A_TooManyEdits, A_NothingToUndo, q_TooManyEdits, q_NothingToUndo, kit_sub kh_NothingToUndo kt_NothingToUndo kp_TooManyEdits_NothingToUndo kz_TooManyEdits, PySem.W.exm_ref ke_NothingToUndo kh_NothingToUndo kt_NothingToUndo kp_TooManyEdits_NothingToUndo, e_TooManyEdits⟩, List.forall_mem_cons.mpr ⟨⟨A_TooManyEdits, A_PadError, q_TooManyEdits, q_PadError, kit_sub kh_PadError kt_PadError kp_TooManyEdits_PadError kz_TooManyEdits, PySem.W.exm_ref ke_PadError kh_PadError kt_PadError kp_TooManyEdits_PadError, e_TooManyEdits⟩, List.forall_mem_cons.mpr ⟨⟨A_TooManyEdits, A_Rejected, q_TooManyEdits, q_Rejected, kit_sub kh_Rejected kt_Rejected kp_TooManyEdits_Rejected kz_TooManyEdits, PySem.W.exm_ref ke_Rejected kh_Rejected kt_Rejected kp_TooManyEdits_Rejected, e_TooManyEdits⟩, List.forall_mem_cons.mpr ⟨⟨A_TooManyEdits, A_TooLong, q_TooManyEdits, q_TooLong, kit_sub kh_TooLong kt_TooLong kp_TooManyEdits_TooLong kz_TooManyEdits, PySem.W.exm_ref ke_TooLong kh_TooLong kt_TooLong kp_TooManyEdits_TooLong, e_TooManyEdits⟩, List.forall_mem_cons.mpr ⟨⟨A_TooManyEdits, A_TooManyEdits, q_TooManyEdits, q_TooManyEdits, kit_sub kh_TooManyEdits kt_TooManyEdits kz_TooManyEdits kz_TooManyEdits, PySem.W.exm_ref ke_TooManyEdits kh_TooManyEdits kt_TooManyEdits kz_TooManyEdits, e_TooManyEdits⟩, List.forall_mem_cons.mpr ⟨⟨A_TooManyEdits, A_TooStrong, q_TooManyEdits, q_TooStrong, kit_sub kh_TooStrong kt_TooStrong kp_TooManyEdits_TooStrong kz_TooManyEdits, PySem.W.exm_ref ke_TooStrong kh_TooStrong kt_TooStrong kp_TooManyEdits_TooStrong, e_TooManyEdits⟩, List.forall_mem_cons.mpr ⟨⟨A_NothingToUndo, A_BadBatch, q_NothingToUndo, q_BadBatch, kit_sub kh_BadBatch kt_BadBatch kp_NothingToUndo_BadBatch kz_NothingToUndo, PySem.W.exm_ref ke_BadBatch kh_BadBatch kt_BadBatch kp_NothingToUndo_BadBatch, e_NothingToUndo⟩, List.forall_mem_cons.mpr ⟨⟨A_NothingToUndo, A_BadForce, q_NothingToUndo, q_BadForce, kit_sub kh_BadForce kt_BadForce kp_NothingToUndo_BadForce kz_NothingToUndo, PySem.W.exm_ref ke_BadForce kh_BadForce kt_BadForce kp_NothingToUndo_BadForce, e_NothingToUndo⟩, List.forall_mem_cons.mpr ⟨⟨A_NothingToUndo, A_BadLetter, q_NothingToUndo, q_BadLetter, kit_sub kh_BadLetter kt_BadLetter kp_NothingToUndo_BadLetter kz_NothingToUndo, PySem.W.exm_ref ke_BadLetter kh_BadLetter kt_BadLetter kp_NothingToUndo_BadLetter, e_NothingToUndo⟩, List.forall_mem_cons.mpr ⟨⟨A_NothingToUndo, A_BadNumber, q_NothingToUndo, q_BadNumber, kit_sub kh_BadNumber kt_BadNumber kp_NothingToUndo_BadNumber kz_NothingToUndo, PySem.W.exm_ref ke_BadNumber kh_BadNumber kt_BadNumber kp_NothingToUndo_BadNumber, e_NothingToUndo⟩, List.forall_mem_cons.mpr ⟨⟨A_NothingToUndo, A_BadOrder, q_NothingToUndo, q_BadOrder, kit_sub kh_BadOrder kt_BadOrder kp_NothingToUndo_BadOrder kz_NothingToUndo, PySem.W.exm_ref ke_BadOrder kh_BadOrder kt_BadOrder kp_NothingToUndo_BadOrder, e_NothingToUndo⟩, List.forall_mem_cons.mpr ⟨⟨A_NothingToUndo, A_BadSheet, q_NothingToUndo, q_BadSheet, kit_sub kh_BadSheet kt_BadSheet kp_NothingToUndo_BadSheet kz_NothingToUndo, PySem.W.exm_ref ke_BadSheet kh_BadSheet kt_BadSheet kp_NothingToUndo_BadSheet, e_NothingToUndo⟩, List.forall_mem_cons.mpr ⟨⟨A_NothingToUndo, A_BadSheets, q_NothingToUndo, q_BadSheets, kit_sub kh_BadSheets kt_BadSheets kp_NothingToUndo_BadSheets kz_NothingToUndo, PySem.W.exm_ref ke_BadSheets kh_BadSheets kt_BadSheets kp_NothingToUndo_BadSheets, e_NothingToUndo⟩, List.forall_mem_cons.mpr ⟨⟨A_NothingToUndo, A_BadText, q_NothingToUndo, q_BadText, kit_sub kh_BadText kt_BadText kp_NothingToUndo_BadText kz_NothingToUndo, PySem.W.exm_ref ke_BadText kh_BadText kt_BadText kp_NothingToUndo_BadText, e_NothingToUndo⟩, List.forall_mem_cons.mpr ⟨⟨A_NothingToUndo, A_BadWord, q_NothingToUndo, q_BadWord, kit_sub kh_BadWord kt_BadWord kp_NothingToUndo_BadWord kz_NothingToUndo, PySem.W.exm_ref ke_BadWord kh_BadWord kt_BadWord kp_NothingToUndo_BadWord, e_NothingToUndo⟩, List.forall_mem_cons.mpr ⟨⟨A_NothingToUndo, A_Busy, q_NothingToUndo, q_Busy, kit_sub kh_Busy kt_Busy kp_NothingToUndo_Busy kz_NothingToUndo, PySem.W.exm_ref ke_Busy kh_Busy kt_Busy kp_NothingToUndo_Busy, e_NothingToUndo⟩, List.forall_mem_cons.mpr ⟨⟨A_NothingToUndo, A_LastSheet, q_NothingToUndo, q_LastSheet, kit_sub kh_LastSheet kt_LastSheet kp_NothingToUndo_LastSheet kz_NothingToUndo, PySem.W.exm_ref ke_LastSheet kh_LastSheet kt_LastSheet kp_NothingToUndo_LastSheet, e_NothingToUndo⟩, List.forall_mem_cons.mpr ⟨⟨A_NothingToUndo, A_NoIndex, q_NothingToUndo, q_NoIndex, kit_sub kh_NoIndex kt_NoIndex kp_NothingToUndo_NoIndex kz_NothingToUndo, PySem.W.exm_ref ke_NoIndex kh_NoIndex kt_NoIndex kp_NothingToUndo_NoIndex, e_NothingToUndo⟩, List.forall_mem_cons.mpr ⟨⟨A_NothingToUndo, A_NoPlace, q_NothingToUndo, q_NoPlace, kit_sub kh_NoPlace kt_NoPlace kp_NothingToUndo_NoPlace kz_NothingToUndo, PySem.W.exm_ref ke_NoPlace kh_NoPlace kt_NoPlace kp_NothingToUndo_NoPlace, e_NothingToUndo⟩, List.forall_mem_cons.mpr ⟨⟨A_NothingToUndo, A_NoSheet, q_NothingToUndo, q_NoSheet, kit_sub kh_NoSheet kt_NoSheet kp_NothingToUndo_NoSheet kz_NothingToUndo, PySem.W.exm_ref ke_NoSheet kh_NoSheet kt_NoSheet kp_NothingToUndo_NoSheet, e_NothingToUndo⟩, List.forall_mem_cons.mpr ⟨⟨A_NothingToUndo, A_NoVersion, q_NothingToUndo, q_NoVersion, kit_sub kh_NoVersion kt_NoVersion kp_NothingToUndo_NoVersion kz_NothingToUndo, PySem.W.exm_ref ke_NoVersion kh_NoVersion kt_NoVersion kp_NothingToUndo_NoVersion, e_NothingToUndo⟩, List.forall_mem_cons.mpr ⟨⟨A_NothingToUndo, A_NoWords, q_NothingToUndo, q_NoWords, kit_sub kh_NoWords kt_NoWords kp_NothingToUndo_NoWords kz_NothingToUndo, PySem.W.exm_ref ke_NoWords kh_NoWords kt_NoWords kp_NothingToUndo_NoWords, e_NothingToUndo⟩, List.forall_mem_cons.mpr ⟨⟨A_NothingToUndo, A_NothingToUndo, q_NothingToUndo, q_NothingToUndo, kit_sub kh_NothingToUndo kt_NothingToUndo kz_NothingToUndo kz_NothingToUndo, PySem.W.exm_ref ke_NothingToUndo kh_NothingToUndo kt_NothingToUndo kz_NothingToUndo, e_NothingToUndo⟩, List.forall_mem_cons.mpr ⟨⟨A_NothingToUndo, A_PadError, q_NothingToUndo, q_PadError, kit_sub kh_PadError kt_PadError kp_NothingToUndo_PadError kz_NothingToUndo, PySem.W.exm_ref ke_PadError kh_PadError kt_PadError kp_NothingToUndo_PadError, e_NothingToUndo⟩, List.forall_mem_cons.mpr ⟨⟨A_NothingToUndo, A_Rejected, q_NothingToUndo, q_Rejected, kit_sub kh_Rejected kt_Rejected kp_NothingToUndo_Rejected kz_NothingToUndo, PySem.W.exm_ref ke_Rejected kh_Rejected kt_Rejected kp_NothingToUndo_Rejected, e_NothingToUndo⟩, List.forall_mem_cons.mpr ⟨⟨A_NothingToUndo, A_TooLong, q_NothingToUndo, q_TooLong, kit_sub kh_TooLong kt_TooLong kp_NothingToUndo_TooLong kz_NothingToUndo, PySem.W.exm_ref ke_TooLong kh_TooLong kt_TooLong kp_NothingToUndo_TooLong, e_NothingToUndo⟩, List.forall_mem_cons.mpr ⟨⟨A_NothingToUndo, A_TooManyEdits, q_NothingToUndo, q_TooManyEdits, kit_sub kh_TooManyEdits kt_TooManyEdits kp_NothingToUndo_TooManyEdits kz_NothingToUndo, PySem.W.exm_ref ke_TooManyEdits kh_TooManyEdits kt_TooManyEdits kp_NothingToUndo_TooManyEdits, e_NothingToUndo⟩, List.forall_mem_cons.mpr ⟨⟨A_NothingToUndo, A_TooStrong, q_NothingToUndo, q_TooStrong, kit_sub kh_TooStrong kt_TooStrong kp_NothingToUndo_TooStrong kz_NothingToUndo, PySem.W.exm_ref ke_TooStrong kh_TooStrong kt_TooStrong kp_NothingToUndo_TooStrong, e_NothingToUndo⟩, List.forall_mem_cons.mpr ⟨⟨A_BadBatch, A_BadBatch, q_BadBatch, q_BadBatch, kit_sub kh_BadBatch kt_BadBatch kz_BadBatch kz_BadBatch, PySem.W.exm_ref ke_BadBatch kh_BadBatch kt_BadBatch kz_BadBatch, e_BadBatch⟩, List.forall_mem_cons.mpr ⟨⟨A_BadBatch, A_BadForce, q_BadBatch, q_BadForce, kit_sub kh_BadForce kt_BadForce kp_BadBatch_BadForce kz_BadBatch, PySem.W.exm_ref ke_BadForce kh_BadForce kt_BadForce kp_BadBatch_BadForce, e_BadBatch⟩, List.forall_mem_cons.mpr ⟨⟨A_BadBatch, A_BadLetter, q_BadBatch, q_BadLetter, kit_sub kh_BadLetter kt_BadLetter kp_BadBatch_BadLetter kz_BadBatch, PySem.W.exm_ref ke_BadLetter kh_BadLetter kt_BadLetter kp_BadBatch_BadLetter, e_BadBatch⟩, List.forall_mem_cons.mpr ⟨⟨A_BadBatch, A_BadNumber, q_BadBatch, q_BadNumber, kit_sub kh_BadNumber kt_BadNumber kp_BadBatch_BadNumber kz_BadBatch, PySem.W.exm_ref ke_BadNumber kh_BadNumber kt_BadNumber kp_BadBatch_BadNumber, e_BadBatch⟩, List.forall_mem_cons.mpr ⟨⟨A_BadBatch, A_BadOrder, q_BadBatch, q_BadOrder, kit_sub kh_BadOrder kt_BadOrder kp_BadBatch_BadOrder kz_BadBatch, PySem.W.exm_ref ke_BadOrder kh_BadOrder kt_BadOrder kp_BadBatch_BadOrder, e_BadBatch⟩, List.forall_mem_cons.mpr ⟨⟨A_BadBatch, A_BadSheet, q_BadBatch, q_BadSheet, kit_sub kh_BadSheet kt_BadSheet kp_BadBatch_BadSheet kz_BadBatch, PySem.W.exm_ref ke_BadSheet kh_BadSheet kt_BadSheet kp_BadBatch_BadSheet, e_BadBatch⟩, List.forall_mem_cons.mpr ⟨⟨A_BadBatch, A_BadSheets, q_BadBatch, q_BadSheets, kit_sub kh_BadSheets kt_BadSheets kp_BadBatch_BadSheets kz_BadBatch, PySem.W.exm_ref ke_BadSheets kh_BadSheets kt_BadSheets kp_BadBatch_BadSheets, e_BadBatch⟩, List.forall_mem_cons.mpr ⟨⟨A_BadBatch, A_BadText, q_BadBatch, q_BadText, kit_sub kh_BadText kt_BadText kp_BadBatch_BadText kz_BadBatch, PySem.W.exm_ref ke_BadText kh_BadText kt_BadText kp_BadBatch_BadText, e_BadBatch⟩, List.forall_mem_cons.mpr ⟨⟨A_BadBatch, A_BadWord, q_BadBatch, q_BadWord, kit_sub kh_BadWord kt_BadWord kp_BadBatch_BadWord kz_BadBatch, PySem.W.exm_ref ke_BadWord kh_BadWord kt_BadWord kp_BadBatch_BadWord, e_BadBatch⟩, List.forall_mem_cons.mpr ⟨⟨A_BadBatch, A_Busy, q_BadBatch, q_Busy, kit_sub kh_Busy kt_Busy kp_BadBatch_Busy kz_BadBatch, PySem.W.exm_ref ke_Busy kh_Busy kt_Busy kp_BadBatch_Busy, e_BadBatch⟩, List.forall_mem_cons.mpr ⟨⟨A_BadBatch, A_LastSheet, q_BadBatch, q_LastSheet, kit_sub kh_LastSheet kt_LastSheet kp_BadBatch_LastSheet kz_BadBatch, PySem.W.exm_ref ke_LastSheet kh_LastSheet kt_LastSheet kp_BadBatch_LastSheet, e_BadBatch⟩, List.forall_mem_cons.mpr ⟨⟨A_BadBatch, A_NoIndex, q_BadBatch, q_NoIndex, kit_sub kh_NoIndex kt_NoIndex kp_BadBatch_NoIndex kz_BadBatch, PySem.W.exm_ref ke_NoIndex kh_NoIndex kt_NoIndex kp_BadBatch_NoIndex, e_BadBatch⟩, List.forall_mem_cons.mpr ⟨⟨A_BadBatch, A_NoPlace, q_BadBatch, q_NoPlace, kit_sub kh_NoPlace kt_NoPlace kp_BadBatch_NoPlace kz_BadBatch, PySem.W.exm_ref ke_NoPlace kh_NoPlace kt_NoPlace kp_BadBatch_NoPlace, e_BadBatch⟩, List.forall_mem_cons.mpr ⟨⟨A_BadBatch, A_NoSheet, q_BadBatch, q_NoSheet, kit_sub kh_NoSheet kt_NoSheet kp_BadBatch_NoSheet kz_BadBatch, PySem.W.exm_ref ke_NoSheet kh_NoSheet kt_NoSheet kp_BadBatch_NoSheet, e_BadBatch⟩, List.forall_mem_cons.mpr ⟨⟨A_BadBatch, A_NoVersion, q_BadBatch, q_NoVersion, kit_sub kh_NoVersion kt_NoVersion kp_BadBatch_NoVersion kz_BadBatch, PySem.W.exm_ref ke_NoVersion kh_NoVersion kt_NoVersion kp_BadBatch_NoVersion, e_BadBatch⟩, List.forall_mem_cons.mpr ⟨⟨A_BadBatch, A_NoWords, q_BadBatch, q_NoWords, kit_sub kh_NoWords kt_NoWords kp_BadBatch_NoWords kz_BadBatch, PySem.W.exm_ref ke_NoWords kh_NoWords kt_NoWords kp_BadBatch_NoWords, e_BadBatch⟩, List.forall_mem_cons.mpr ⟨⟨A_BadBatch, A_NothingToUndo, q_BadBatch, q_NothingToUndo, kit_sub kh_NothingToUndo kt_NothingToUndo kp_BadBatch_NothingToUndo kz_BadBatch, PySem.W.exm_ref ke_NothingToUndo kh_NothingToUndo kt_NothingToUndo kp_BadBatch_NothingToUndo, e_BadBatch⟩, List.forall_mem_cons.mpr ⟨⟨A_BadBatch, A_PadError, q_BadBatch, q_PadError, kit_sub kh_PadError kt_PadError kp_BadBatch_PadError kz_BadBatch, PySem.W.exm_ref ke_PadError kh_PadError kt_PadError kp_BadBatch_PadError, e_BadBatch⟩, List.forall_mem_cons.mpr ⟨⟨A_BadBatch, A_Rejected, q_BadBatch, q_Rejected, kit_sub kh_Rejected kt_Rejected kp_BadBatch_Rejected kz_BadBatch, PySem.W.exm_ref ke_Rejected kh_Rejected kt_Rejected kp_BadBatch_Rejected, e_BadBatch⟩, List.forall_mem_cons.mpr ⟨⟨A_BadBatch, A_TooLong, q_BadBatch, q_TooLong, kit_sub kh_TooLong kt_TooLong kp_BadBatch_TooLong kz_BadBatch, PySem.W.exm_ref ke_TooLong kh_TooLong kt_TooLong kp_BadBatch_TooLong, e_BadBatch⟩, List.forall_mem_cons.mpr ⟨⟨A_BadBatch, A_TooManyEdits, q_BadBatch, q_TooManyEdits, kit_sub kh_TooManyEdits kt_TooManyEdits kp_BadBatch_TooManyEdits kz_BadBatch, PySem.W.exm_ref ke_TooManyEdits kh_TooManyEdits kt_TooManyEdits kp_BadBatch_TooManyEdits, e_BadBatch⟩, List.forall_mem_cons.mpr ⟨⟨A_BadBatch, A_TooStrong, q_BadBatch, q_TooStrong, kit_sub kh_TooStrong kt_TooStrong kp_BadBatch_TooStrong kz_BadBatch, PySem.W.exm_ref ke_TooStrong kh_TooStrong kt_TooStrong kp_BadBatch_TooStrong, e_BadBatch⟩, List.forall_mem_cons.mpr ⟨⟨A_NoSheet, A_BadBatch, q_NoSheet, q_BadBatch, kit_sub kh_BadBatch kt_BadBatch kp_NoSheet_BadBatch kz_NoSheet, PySem.W.exm_ref ke_BadBatch kh_BadBatch kt_BadBatch kp_NoSheet_BadBatch, e_NoSheet⟩, List.forall_mem_cons.mpr ⟨⟨A_NoSheet, A_BadForce, q_NoSheet, q_BadForce, kit_sub kh_BadForce kt_BadForce kp_NoSheet_BadForce kz_NoSheet, PySem.W.exm_ref ke_BadForce kh_BadForce kt_BadForce kp_NoSheet_BadForce, e_NoSheet⟩, List.forall_mem_cons.mpr ⟨⟨A_NoSheet, A_BadLetter, q_NoSheet, q_BadLetter, kit_sub kh_BadLetter kt_BadLetter kp_NoSheet_BadLetter kz_NoSheet, PySem.W.exm_ref ke_BadLetter kh_BadLetter kt_BadLetter kp_NoSheet_BadLetter, e_NoSheet⟩, List.forall_mem_cons.mpr ⟨⟨A_NoSheet, A_BadNumber, q_NoSheet, q_BadNumber, kit_sub kh_BadNumber kt_BadNumber kp_NoSheet_BadNumber kz_NoSheet, PySem.W.exm_ref ke_BadNumber kh_BadNumber kt_BadNumber kp_NoSheet_BadNumber, e_NoSheet⟩, List.forall_mem_cons.mpr ⟨⟨A_NoSheet, A_BadOrder, q_NoSheet, q_BadOrder, kit_sub kh_BadOrder kt_BadOrder kp_NoSheet_BadOrder kz_NoSheet, PySem.W.exm_ref ke_BadOrder kh_BadOrder kt_BadOrder kp_NoSheet_BadOrder, e_NoSheet⟩, List.forall_mem_cons.mpr ⟨⟨A_NoSheet, A_BadSheet, q_NoSheet, q_BadSheet, kit_sub kh_BadSheet kt_BadSheet kp_NoSheet_BadSheet kz_NoSheet, PySem.W.exm_ref ke_BadSheet kh_BadSheet kt_BadSheet kp_NoSheet_BadSheet, e_NoSheet⟩, List.forall_mem_cons.mpr ⟨⟨A_NoSheet, A_BadSheets, q_NoSheet, q_BadSheets, kit_sub kh_BadSheets kt_BadSheets kp_NoSheet_BadSheets kz_NoSheet, PySem.W.exm_ref ke_BadSheets kh_BadSheets kt_BadSheets kp_NoSheet_BadSheets, e_NoSheet⟩, List.forall_mem_cons.mpr ⟨⟨A_NoSheet, A_BadText, q_NoSheet, q_BadText, kit_sub kh_BadText kt_BadText kp_NoSheet_BadText kz_NoSheet, PySem.W.exm_ref ke_BadText kh_BadText kt_BadText kp_NoSheet_BadText, e_NoSheet⟩, List.forall_mem_cons.mpr ⟨⟨A_NoSheet, A_BadWord, q_NoSheet, q_BadWord, kit_sub kh_BadWord kt_BadWord kp_NoSheet_BadWord kz_NoSheet, PySem.W.exm_ref ke_BadWord kh_BadWord kt_BadWord kp_NoSheet_BadWord, e_NoSheet⟩, List.forall_mem_cons.mpr ⟨⟨A_NoSheet, A_Busy, q_NoSheet, q_Busy, kit_sub kh_Busy kt_Busy kp_NoSheet_Busy kz_NoSheet, PySem.W.exm_ref ke_Busy kh_Busy kt_Busy kp_NoSheet_Busy, e_NoSheet⟩, List.forall_mem_cons.mpr ⟨⟨A_NoSheet, A_LastSheet, q_NoSheet, q_LastSheet, kit_sub kh_LastSheet kt_LastSheet kp_NoSheet_LastSheet kz_NoSheet, PySem.W.exm_ref ke_LastSheet kh_LastSheet kt_LastSheet kp_NoSheet_LastSheet, e_NoSheet⟩, List.forall_mem_cons.mpr ⟨⟨A_NoSheet, A_NoIndex, q_NoSheet, q_NoIndex, kit_sub kh_NoIndex kt_NoIndex kp_NoSheet_NoIndex kz_NoSheet, PySem.W.exm_ref ke_NoIndex kh_NoIndex kt_NoIndex kp_NoSheet_NoIndex, e_NoSheet⟩, List.forall_mem_cons.mpr ⟨⟨A_NoSheet, A_NoPlace, q_NoSheet, q_NoPlace, kit_sub kh_NoPlace kt_NoPlace kp_NoSheet_NoPlace kz_NoSheet, PySem.W.exm_ref ke_NoPlace kh_NoPlace kt_NoPlace kp_NoSheet_NoPlace, e_NoSheet⟩, List.forall_mem_cons.mpr ⟨⟨A_NoSheet, A_NoSheet, q_NoSheet, q_NoSheet, kit_sub kh_NoSheet kt_NoSheet kz_NoSheet kz_NoSheet, PySem.W.exm_ref ke_NoSheet kh_NoSheet kt_NoSheet kz_NoSheet, e_NoSheet⟩, List.forall_mem_cons.mpr ⟨⟨A_NoSheet, A_NoVersion, q_NoSheet, q_NoVersion, kit_sub kh_NoVersion kt_NoVersion kp_NoSheet_NoVersion kz_NoSheet, PySem.W.exm_ref ke_NoVersion kh_NoVersion kt_NoVersion kp_NoSheet_NoVersion, e_NoSheet⟩, List.forall_mem_cons.mpr ⟨⟨A_NoSheet, A_NoWords, q_NoSheet, q_NoWords, kit_sub kh_NoWords kt_NoWords kp_NoSheet_NoWords kz_NoSheet, PySem.W.exm_ref ke_NoWords kh_NoWords kt_NoWords kp_NoSheet_NoWords, e_NoSheet⟩, List.forall_mem_cons.mpr ⟨⟨A_NoSheet, A_NothingToUndo, q_NoSheet, q_NothingToUndo, kit_sub kh_NothingToUndo kt_NothingToUndo kp_NoSheet_NothingToUndo kz_NoSheet, PySem.W.exm_ref ke_NothingToUndo kh_NothingToUndo kt_NothingToUndo kp_NoSheet_NothingToUndo, e_NoSheet⟩, List.forall_mem_cons.mpr ⟨⟨A_NoSheet, A_PadError, q_NoSheet, q_PadError, kit_sub kh_PadError kt_PadError kp_NoSheet_PadError kz_NoSheet, PySem.W.exm_ref ke_PadError kh_PadError kt_PadError kp_NoSheet_PadError, e_NoSheet⟩, List.forall_mem_cons.mpr ⟨⟨A_NoSheet, A_Rejected, q_NoSheet, q_Rejected, kit_sub kh_Rejected kt_Rejected kp_NoSheet_Rejected kz_NoSheet, PySem.W.exm_ref ke_Rejected kh_Rejected kt_Rejected kp_NoSheet_Rejected, e_NoSheet⟩, List.forall_mem_cons.mpr ⟨⟨A_NoSheet, A_TooLong, q_NoSheet, q_TooLong, kit_sub kh_TooLong kt_TooLong kp_NoSheet_TooLong kz_NoSheet, PySem.W.exm_ref ke_TooLong kh_TooLong kt_TooLong kp_NoSheet_TooLong, e_NoSheet⟩, List.forall_mem_cons.mpr ⟨⟨A_NoSheet, A_TooManyEdits, q_NoSheet, q_TooManyEdits, kit_sub kh_TooManyEdits kt_TooManyEdits kp_NoSheet_TooManyEdits kz_NoSheet, PySem.W.exm_ref ke_TooManyEdits kh_TooManyEdits kt_TooManyEdits kp_NoSheet_TooManyEdits, e_NoSheet⟩, List.forall_mem_cons.mpr ⟨⟨A_NoSheet, A_TooStrong, q_NoSheet, q_TooStrong, kit_sub kh_TooStrong kt_TooStrong kp_NoSheet_TooStrong kz_NoSheet, PySem.W.exm_ref ke_TooStrong kh_TooStrong kt_TooStrong kp_NoSheet_TooStrong, e_NoSheet⟩, List.forall_mem_cons.mpr ⟨⟨A_NoPlace, A_BadBatch, q_NoPlace, q_BadBatch, kit_sub kh_BadBatch kt_BadBatch kp_NoPlace_BadBatch kz_NoPlace, PySem.W.exm_ref ke_BadBatch kh_BadBatch kt_BadBatch kp_NoPlace_BadBatch, e_NoPlace⟩, List.forall_mem_cons.mpr ⟨⟨A_NoPlace, A_BadForce, q_NoPlace, q_BadForce, kit_sub kh_BadForce kt_BadForce kp_NoPlace_BadForce kz_NoPlace, PySem.W.exm_ref ke_BadForce kh_BadForce kt_BadForce kp_NoPlace_BadForce, e_NoPlace⟩, List.forall_mem_cons.mpr ⟨⟨A_NoPlace, A_BadLetter, q_NoPlace, q_BadLetter, kit_sub kh_BadLetter kt_BadLetter kp_NoPlace_BadLetter kz_NoPlace, PySem.W.exm_ref ke_BadLetter kh_BadLetter kt_BadLetter kp_NoPlace_BadLetter, e_NoPlace⟩, List.forall_mem_cons.mpr ⟨⟨A_NoPlace, A_BadNumber, q_NoPlace, q_BadNumber, kit_sub kh_BadNumber kt_BadNumber kp_NoPlace_BadNumber kz_NoPlace, PySem.W.exm_ref ke_BadNumber kh_BadNumber kt_BadNumber kp_NoPlace_BadNumber, e_NoPlace⟩, List.forall_mem_cons.mpr ⟨⟨A_NoPlace, A_BadOrder, q_NoPlace, q_BadOrder, kit_sub kh_BadOrder kt_BadOrder kp_NoPlace_BadOrder kz_NoPlace, PySem.W.exm_ref ke_BadOrder kh_BadOrder kt_BadOrder kp_NoPlace_BadOrder, e_NoPlace⟩, List.forall_mem_cons.mpr ⟨⟨A_NoPlace, A_BadSheet, q_NoPlace, q_BadSheet, kit_sub kh_BadSheet kt_BadSheet kp_NoPlace_BadSheet kz_NoPlace, PySem.W.exm_ref ke_BadSheet kh_BadSheet kt_BadSheet kp_NoPlace_BadSheet, e_NoPlace⟩, List.forall_mem_cons.mpr ⟨⟨A_NoPlace, A_BadSheets, q_NoPlace, q_BadSheets, kit_sub kh_BadSheets kt_BadSheets kp_NoPlace_BadSheets kz_NoPlace, PySem.W.exm_ref ke_BadSheets kh_BadSheets kt_BadSheets kp_NoPlace_BadSheets, e_NoPlace⟩, List.forall_mem_cons.mpr ⟨⟨A_NoPlace, A_BadText, q_NoPlace, q_BadText, kit_sub kh_BadText kt_BadText kp_NoPlace_BadText kz_NoPlace, PySem.W.exm_ref ke_BadText kh_BadText kt_BadText kp_NoPlace_BadText, e_NoPlace⟩, List.forall_mem_cons.mpr ⟨⟨A_NoPlace, A_BadWord, q_NoPlace, q_BadWord, kit_sub kh_BadWord kt_BadWord kp_NoPlace_BadWord kz_NoPlace, PySem.W.exm_ref ke_BadWord kh_BadWord kt_BadWord kp_NoPlace_BadWord, e_NoPlace⟩, List.forall_mem_cons.mpr ⟨⟨A_NoPlace, A_Busy, q_NoPlace, q_Busy, kit_sub kh_Busy kt_Busy kp_NoPlace_Busy kz_NoPlace, PySem.W.exm_ref ke_Busy kh_Busy kt_Busy kp_NoPlace_Busy, e_NoPlace⟩, List.forall_mem_cons.mpr ⟨⟨A_NoPlace, A_LastSheet, q_NoPlace, q_LastSheet, kit_sub kh_LastSheet kt_LastSheet kp_NoPlace_LastSheet kz_NoPlace, PySem.W.exm_ref ke_LastSheet kh_LastSheet kt_LastSheet kp_NoPlace_LastSheet, e_NoPlace⟩, List.forall_mem_cons.mpr ⟨⟨A_NoPlace, A_NoIndex, q_NoPlace, q_NoIndex, kit_sub kh_NoIndex kt_NoIndex kp_NoPlace_NoIndex kz_NoPlace, PySem.W.exm_ref ke_NoIndex kh_NoIndex kt_NoIndex kp_NoPlace_NoIndex, e_NoPlace⟩, List.forall_mem_cons.mpr ⟨⟨A_NoPlace, A_NoPlace, q_NoPlace, q_NoPlace, kit_sub kh_NoPlace kt_NoPlace kz_NoPlace kz_NoPlace, PySem.W.exm_ref ke_NoPlace kh_NoPlace kt_NoPlace kz_NoPlace, e_NoPlace⟩, List.forall_mem_cons.mpr ⟨⟨A_NoPlace, A_NoSheet, q_NoPlace, q_NoSheet, kit_sub kh_NoSheet kt_NoSheet kp_NoPlace_NoSheet kz_NoPlace, PySem.W.exm_ref ke_NoSheet kh_NoSheet kt_NoSheet kp_NoPlace_NoSheet, e_NoPlace⟩, List.forall_mem_cons.mpr ⟨⟨A_NoPlace, A_NoVersion, q_NoPlace, q_NoVersion, kit_sub kh_NoVersion kt_NoVersion kp_NoPlace_NoVersion kz_NoPlace, PySem.W.exm_ref ke_NoVersion kh_NoVersion kt_NoVersion kp_NoPlace_NoVersion, e_NoPlace⟩, List.forall_mem_cons.mpr ⟨⟨A_NoPlace, A_NoWords, q_NoPlace, q_NoWords, kit_sub kh_NoWords kt_NoWords kp_NoPlace_NoWords kz_NoPlace, PySem.W.exm_ref ke_NoWords kh_NoWords kt_NoWords kp_NoPlace_NoWords, e_NoPlace⟩, List.forall_mem_cons.mpr ⟨⟨A_NoPlace, A_NothingToUndo, q_NoPlace, q_NothingToUndo, kit_sub kh_NothingToUndo kt_NothingToUndo kp_NoPlace_NothingToUndo kz_NoPlace, PySem.W.exm_ref ke_NothingToUndo kh_NothingToUndo kt_NothingToUndo kp_NoPlace_NothingToUndo, e_NoPlace⟩, List.forall_mem_cons.mpr ⟨⟨A_NoPlace, A_PadError, q_NoPlace, q_PadError, kit_sub kh_PadError kt_PadError kp_NoPlace_PadError kz_NoPlace, PySem.W.exm_ref ke_PadError kh_PadError kt_PadError kp_NoPlace_PadError, e_NoPlace⟩, List.forall_mem_cons.mpr ⟨⟨A_NoPlace, A_Rejected, q_NoPlace, q_Rejected, kit_sub kh_Rejected kt_Rejected kp_NoPlace_Rejected kz_NoPlace, PySem.W.exm_ref ke_Rejected kh_Rejected kt_Rejected kp_NoPlace_Rejected, e_NoPlace⟩, List.forall_mem_cons.mpr ⟨⟨A_NoPlace, A_TooLong, q_NoPlace, q_TooLong, kit_sub kh_TooLong kt_TooLong kp_NoPlace_TooLong kz_NoPlace, PySem.W.exm_ref ke_TooLong kh_TooLong kt_TooLong kp_NoPlace_TooLong, e_NoPlace⟩, List.forall_mem_cons.mpr ⟨⟨A_NoPlace, A_TooManyEdits, q_NoPlace, q_TooManyEdits, kit_sub kh_TooManyEdits kt_TooManyEdits kp_NoPlace_TooManyEdits kz_NoPlace, PySem.W.exm_ref ke_TooManyEdits kh_TooManyEdits kt_TooManyEdits kp_NoPlace_TooManyEdits, e_NoPlace⟩, List.forall_mem_cons.mpr ⟨⟨A_NoPlace, A_TooStrong, q_NoPlace, q_TooStrong, kit_sub kh_TooStrong kt_TooStrong kp_NoPlace_TooStrong kz_NoPlace, PySem.W.exm_ref ke_TooStrong kh_TooStrong kt_TooStrong kp_NoPlace_TooStrong, e_NoPlace⟩, List.forall_mem_cons.mpr ⟨⟨A_NoIndex, A_BadBatch, q_NoIndex, q_BadBatch, kit_sub kh_BadBatch kt_BadBatch kp_NoIndex_BadBatch kz_NoIndex, PySem.W.exm_ref ke_BadBatch kh_BadBatch kt_BadBatch kp_NoIndex_BadBatch, e_NoIndex⟩, List.forall_mem_cons.mpr ⟨⟨A_NoIndex, A_BadForce, q_NoIndex, q_BadForce, kit_sub kh_BadForce kt_BadForce kp_NoIndex_BadForce kz_NoIndex, PySem.W.exm_ref ke_BadForce kh_BadForce kt_BadForce kp_NoIndex_BadForce, e_NoIndex⟩, List.forall_mem_cons.mpr ⟨⟨A_NoIndex, A_BadLetter, q_NoIndex, q_BadLetter, kit_sub kh_BadLetter kt_BadLetter kp_NoIndex_BadLetter kz_NoIndex, PySem.W.exm_ref ke_BadLetter kh_BadLetter kt_BadLetter kp_NoIndex_BadLetter, e_NoIndex⟩, List.forall_mem_cons.mpr ⟨⟨A_NoIndex, A_BadNumber, q_NoIndex, q_BadNumber, kit_sub kh_BadNumber kt_BadNumber kp_NoIndex_BadNumber kz_NoIndex, PySem.W.exm_ref ke_BadNumber kh_BadNumber kt_BadNumber kp_NoIndex_BadNumber, e_NoIndex⟩, List.forall_mem_cons.mpr ⟨⟨A_NoIndex, A_BadOrder, q_NoIndex, q_BadOrder, kit_sub kh_BadOrder kt_BadOrder kp_NoIndex_BadOrder kz_NoIndex, PySem.W.exm_ref ke_BadOrder kh_BadOrder kt_BadOrder kp_NoIndex_BadOrder, e_NoIndex⟩, List.forall_mem_cons.mpr ⟨⟨A_NoIndex, A_BadSheet, q_NoIndex, q_BadSheet, kit_sub kh_BadSheet kt_BadSheet kp_NoIndex_BadSheet kz_NoIndex, PySem.W.exm_ref ke_BadSheet kh_BadSheet kt_BadSheet kp_NoIndex_BadSheet, e_NoIndex⟩, List.forall_mem_cons.mpr ⟨⟨A_NoIndex, A_BadSheets, q_NoIndex, q_BadSheets, kit_sub kh_BadSheets kt_BadSheets kp_NoIndex_BadSheets kz_NoIndex, PySem.W.exm_ref ke_BadSheets kh_BadSheets kt_BadSheets kp_NoIndex_BadSheets, e_NoIndex⟩, List.forall_mem_cons.mpr ⟨⟨A_NoIndex, A_BadText, q_NoIndex, q_BadText, kit_sub kh_BadText kt_BadText kp_NoIndex_BadText kz_NoIndex, PySem.W.exm_ref ke_BadText kh_BadText kt_BadText kp_NoIndex_BadText, e_NoIndex⟩, List.forall_mem_cons.mpr ⟨⟨A_NoIndex, A_BadWord, q_NoIndex, q_BadWord, kit_sub kh_BadWord kt_BadWord kp_NoIndex_BadWord kz_NoIndex, PySem.W.exm_ref ke_BadWord kh_BadWord kt_BadWord kp_NoIndex_BadWord, e_NoIndex⟩, List.forall_mem_cons.mpr ⟨⟨A_NoIndex, A_Busy, q_NoIndex, q_Busy, kit_sub kh_Busy kt_Busy kp_NoIndex_Busy kz_NoIndex, PySem.W.exm_ref ke_Busy kh_Busy kt_Busy kp_NoIndex_Busy, e_NoIndex⟩, List.forall_mem_cons.mpr ⟨⟨A_NoIndex, A_LastSheet, q_NoIndex, q_LastSheet, kit_sub kh_LastSheet kt_LastSheet kp_NoIndex_LastSheet kz_NoIndex, PySem.W.exm_ref ke_LastSheet kh_LastSheet kt_LastSheet kp_NoIndex_LastSheet, e_NoIndex⟩, List.forall_mem_cons.mpr ⟨⟨A_NoIndex, A_NoIndex, q_NoIndex, q_NoIndex, kit_sub kh_NoIndex kt_NoIndex kz_NoIndex kz_NoIndex, PySem.W.exm_ref ke_NoIndex kh_NoIndex kt_NoIndex kz_NoIndex, e_NoIndex⟩, List.forall_mem_cons.mpr ⟨⟨A_NoIndex, A_NoPlace, q_NoIndex, q_NoPlace, kit_sub kh_NoPlace kt_NoPlace kp_NoIndex_NoPlace kz_NoIndex, PySem.W.exm_ref ke_NoPlace kh_NoPlace kt_NoPlace kp_NoIndex_NoPlace, e_NoIndex⟩, List.forall_mem_cons.mpr ⟨⟨A_NoIndex, A_NoSheet, q_NoIndex, q_NoSheet, kit_sub kh_NoSheet kt_NoSheet kp_NoIndex_NoSheet kz_NoIndex, PySem.W.exm_ref ke_NoSheet kh_NoSheet kt_NoSheet kp_NoIndex_NoSheet, e_NoIndex⟩, List.forall_mem_cons.mpr ⟨⟨A_NoIndex, A_NoVersion, q_NoIndex, q_NoVersion, kit_sub kh_NoVersion kt_NoVersion kp_NoIndex_NoVersion kz_NoIndex, PySem.W.exm_ref ke_NoVersion kh_NoVersion kt_NoVersion kp_NoIndex_NoVersion, e_NoIndex⟩, List.forall_mem_cons.mpr ⟨⟨A_NoIndex, A_NoWords, q_NoIndex, q_NoWords, kit_sub kh_NoWords kt_NoWords kp_NoIndex_NoWords kz_NoIndex, PySem.W.exm_ref ke_NoWords kh_NoWords kt_NoWords kp_NoIndex_NoWords, e_NoIndex⟩, List.forall_mem_cons.mpr ⟨⟨A_NoIndex, A_NothingToUndo, q_NoIndex, q_NothingToUndo, kit_sub kh_NothingToUndo kt_NothingToUndo kp_NoIndex_NothingToUndo kz_NoIndex, PySem.W.exm_ref ke_NothingToUndo kh_NothingToUndo kt_NothingToUndo kp_NoIndex_NothingToUndo, e_NoIndex⟩, List.forall_mem_cons.mpr ⟨⟨A_NoIndex, A_PadError, q_NoIndex, q_PadError, kit_sub kh_PadError kt_PadError kp_NoIndex_PadError kz_NoIndex, PySem.W.exm_ref ke_PadError kh_PadError kt_PadError kp_NoIndex_PadError, e_NoIndex⟩, List.forall_mem_cons.mpr ⟨⟨A_NoIndex, A_Rejected, q_NoIndex, q_Rejected, kit_sub kh_Rejected kt_Rejected kp_NoIndex_Rejected kz_NoIndex, PySem.W.exm_ref ke_Rejected kh_Rejected kt_Rejected kp_NoIndex_Rejected, e_NoIndex⟩, List.forall_mem_cons.mpr ⟨⟨A_NoIndex, A_TooLong, q_NoIndex, q_TooLong, kit_sub kh_TooLong kt_TooLong kp_NoIndex_TooLong kz_NoIndex, PySem.W.exm_ref ke_TooLong kh_TooLong kt_TooLong kp_NoIndex_TooLong, e_NoIndex⟩, List.forall_mem_cons.mpr ⟨⟨A_NoIndex, A_TooManyEdits, q_NoIndex, q_TooManyEdits, kit_sub kh_TooManyEdits kt_TooManyEdits kp_NoIndex_TooManyEdits kz_NoIndex, PySem.W.exm_ref ke_TooManyEdits kh_TooManyEdits kt_TooManyEdits kp_NoIndex_TooManyEdits, e_NoIndex⟩, List.forall_mem_cons.mpr ⟨⟨A_NoIndex, A_TooStrong, q_NoIndex, q_TooStrong, kit_sub kh_TooStrong kt_TooStrong kp_NoIndex_TooStrong kz_NoIndex, PySem.W.exm_ref ke_TooStrong kh_TooStrong kt_TooStrong kp_NoIndex_TooStrong, e_NoIndex⟩, List.forall_mem_cons.mpr ⟨⟨A_NoVersion, A_BadBatch, q_NoVersion, q_BadBatch, kit_sub kh_BadBatch kt_BadBatch kp_NoVersion_BadBatch kz_NoVersion, PySem.W.exm_ref ke_BadBatch kh_BadBatch kt_BadBatch kp_NoVersion_BadBatch, e_NoVersion⟩, List.forall_mem_cons.mpr ⟨⟨A_NoVersion, A_BadForce, q_NoVersion, q_BadForce, kit_sub kh_BadForce kt_BadForce kp_NoVersion_BadForce kz_NoVersion, PySem.W.exm_ref ke_BadForce kh_BadForce kt_BadForce kp_NoVersion_BadForce, e_NoVersion⟩, List.forall_mem_cons.mpr ⟨⟨A_NoVersion, A_BadLetter, q_NoVersion, q_BadLetter, kit_sub kh_BadLetter kt_BadLetter kp_NoVersion_BadLetter kz_NoVersion, PySem.W.exm_ref ke_BadLetter kh_BadLetter kt_BadLetter kp_NoVersion_BadLetter, e_NoVersion⟩, List.forall_mem_cons.mpr ⟨⟨A_NoVersion, A_BadNumber, q_NoVersion, q_BadNumber, kit_sub kh_BadNumber kt_BadNumber kp_NoVersion_BadNumber kz_NoVersion, PySem.W.exm_ref ke_BadNumber kh_BadNumber kt_BadNumber kp_NoVersion_BadNumber, e_NoVersion⟩, List.forall_mem_cons.mpr ⟨⟨A_NoVersion, A_BadOrder, q_NoVersion, q_BadOrder, kit_sub kh_BadOrder kt_BadOrder kp_NoVersion_BadOrder kz_NoVersion, PySem.W.exm_ref ke_BadOrder kh_BadOrder kt_BadOrder kp_NoVersion_BadOrder, e_NoVersion⟩, List.forall_mem_cons.mpr ⟨⟨A_NoVersion, A_BadSheet, q_NoVersion, q_BadSheet, kit_sub kh_BadSheet kt_BadSheet kp_NoVersion_BadSheet kz_NoVersion, PySem.W.exm_ref ke_BadSheet kh_BadSheet kt_BadSheet kp_NoVersion_BadSheet, e_NoVersion⟩, List.forall_mem_cons.mpr ⟨⟨A_NoVersion, A_BadSheets, q_NoVersion, q_BadSheets, kit_sub kh_BadSheets kt_BadSheets kp_NoVersion_BadSheets kz_NoVersion, PySem.W.exm_ref ke_BadSheets kh_BadSheets kt_BadSheets kp_NoVersion_BadSheets, e_NoVersion⟩, List.forall_mem_cons.mpr ⟨⟨A_NoVersion, A_BadText, q_NoVersion, q_BadText, kit_sub kh_BadText kt_BadText kp_NoVersion_BadText kz_NoVersion, PySem.W.exm_ref ke_BadText kh_BadText kt_BadText kp_NoVersion_BadText, e_NoVersion⟩, List.forall_mem_cons.mpr ⟨⟨A_NoVersion, A_BadWord, q_NoVersion, q_BadWord, kit_sub kh_BadWord kt_BadWord kp_NoVersion_BadWord kz_NoVersion, PySem.W.exm_ref ke_BadWord kh_BadWord kt_BadWord kp_NoVersion_BadWord, e_NoVersion⟩, List.forall_mem_cons.mpr ⟨⟨A_NoVersion, A_Busy, q_NoVersion, q_Busy, kit_sub kh_Busy kt_Busy kp_NoVersion_Busy kz_NoVersion, PySem.W.exm_ref ke_Busy kh_Busy kt_Busy kp_NoVersion_Busy, e_NoVersion⟩, List.forall_mem_cons.mpr ⟨⟨A_NoVersion, A_LastSheet, q_NoVersion, q_LastSheet, kit_sub kh_LastSheet kt_LastSheet kp_NoVersion_LastSheet kz_NoVersion, PySem.W.exm_ref ke_LastSheet kh_LastSheet kt_LastSheet kp_NoVersion_LastSheet, e_NoVersion⟩, List.forall_mem_cons.mpr ⟨⟨A_NoVersion, A_NoIndex, q_NoVersion, q_NoIndex, kit_sub kh_NoIndex kt_NoIndex kp_NoVersion_NoIndex kz_NoVersion, PySem.W.exm_ref ke_NoIndex kh_NoIndex kt_NoIndex kp_NoVersion_NoIndex, e_NoVersion⟩, List.forall_mem_cons.mpr ⟨⟨A_NoVersion, A_NoPlace, q_NoVersion, q_NoPlace, kit_sub kh_NoPlace kt_NoPlace kp_NoVersion_NoPlace kz_NoVersion, PySem.W.exm_ref ke_NoPlace kh_NoPlace kt_NoPlace kp_NoVersion_NoPlace, e_NoVersion⟩, List.forall_mem_cons.mpr ⟨⟨A_NoVersion, A_NoSheet, q_NoVersion, q_NoSheet, kit_sub kh_NoSheet kt_NoSheet kp_NoVersion_NoSheet kz_NoVersion, PySem.W.exm_ref ke_NoSheet kh_NoSheet kt_NoSheet kp_NoVersion_NoSheet, e_NoVersion⟩, List.forall_mem_cons.mpr ⟨⟨A_NoVersion, A_NoVersion, q_NoVersion, q_NoVersion, kit_sub kh_NoVersion kt_NoVersion kz_NoVersion kz_NoVersion, PySem.W.exm_ref ke_NoVersion kh_NoVersion kt_NoVersion kz_NoVersion, e_NoVersion⟩, List.forall_mem_cons.mpr ⟨⟨A_NoVersion, A_NoWords, q_NoVersion, q_NoWords, kit_sub kh_NoWords kt_NoWords kp_NoVersion_NoWords kz_NoVersion, PySem.W.exm_ref ke_NoWords kh_NoWords kt_NoWords kp_NoVersion_NoWords, e_NoVersion⟩, List.forall_mem_cons.mpr ⟨⟨A_NoVersion, A_NothingToUndo, q_NoVersion, q_NothingToUndo, kit_sub kh_NothingToUndo kt_NothingToUndo kp_NoVersion_NothingToUndo kz_NoVersion, PySem.W.exm_ref ke_NothingToUndo kh_NothingToUndo kt_NothingToUndo kp_NoVersion_NothingToUndo, e_NoVersion⟩, List.forall_mem_cons.mpr ⟨⟨A_NoVersion, A_PadError, q_NoVersion, q_PadError, kit_sub kh_PadError kt_PadError kp_NoVersion_PadError kz_NoVersion, PySem.W.exm_ref ke_PadError kh_PadError kt_PadError kp_NoVersion_PadError, e_NoVersion⟩, List.forall_mem_cons.mpr ⟨⟨A_NoVersion, A_Rejected, q_NoVersion, q_Rejected, kit_sub kh_Rejected kt_Rejected kp_NoVersion_Rejected kz_NoVersion, PySem.W.exm_ref ke_Rejected kh_Rejected kt_Rejected kp_NoVersion_Rejected, e_NoVersion⟩, List.forall_mem_cons.mpr ⟨⟨A_NoVersion, A_TooLong, q_NoVersion, q_TooLong, kit_sub kh_TooLong kt_TooLong kp_NoVersion_TooLong kz_NoVersion, PySem.W.exm_ref ke_TooLong kh_TooLong kt_TooLong kp_NoVersion_TooLong, e_NoVersion⟩, List.forall_mem_cons.mpr ⟨⟨A_NoVersion, A_TooManyEdits, q_NoVersion, q_TooManyEdits, kit_sub kh_TooManyEdits kt_TooManyEdits kp_NoVersion_TooManyEdits kz_NoVersion, PySem.W.exm_ref ke_TooManyEdits kh_TooManyEdits kt_TooManyEdits kp_NoVersion_TooManyEdits, e_NoVersion⟩, List.forall_mem_cons.mpr ⟨⟨A_NoVersion, A_TooStrong, q_NoVersion, q_TooStrong, kit_sub kh_TooStrong kt_TooStrong kp_NoVersion_TooStrong kz_NoVersion, PySem.W.exm_ref ke_TooStrong kh_TooStrong kt_TooStrong kp_NoVersion_TooStrong, e_NoVersion⟩, fun _ h => nomatch h⟩⟩⟩⟩⟩⟩⟩⟩⟩⟩⟩⟩⟩⟩⟩⟩⟩⟩⟩⟩⟩⟩⟩⟩⟩⟩⟩⟩⟩⟩⟩⟩⟩⟩⟩⟩⟩⟩⟩⟩⟩⟩⟩⟩⟩⟩⟩⟩⟩⟩⟩⟩⟩⟩⟩⟩⟩⟩⟩⟩⟩⟩⟩⟩⟩⟩⟩⟩⟩⟩⟩⟩⟩⟩⟩⟩⟩⟩⟩⟩⟩⟩⟩⟩⟩⟩⟩⟩⟩⟩⟩⟩⟩⟩⟩⟩⟩⟩⟩⟩⟩⟩⟩⟩⟩⟩⟩⟩⟩⟩⟩⟩⟩⟩⟩⟩⟩⟩⟩⟩⟩⟩⟩⟩⟩⟩⟩⟩⟩⟩⟩⟩⟩⟩⟩⟩⟩⟩⟩⟩⟩⟩⟩⟩⟩⟩⟩⟩⟩⟩⟩⟩⟩⟩⟩⟩⟩⟩⟩⟩⟩⟩⟩⟩⟩⟩⟩⟩⟩⟩⟩⟩⟩⟩⟩⟩⟩⟩⟩⟩⟩⟩⟩⟩⟩⟩⟩⟩⟩⟩⟩⟩⟩⟩⟩⟩⟩⟩⟩⟩⟩⟩⟩⟩⟩⟩⟩⟩⟩⟩⟩⟩⟩⟩⟩⟩⟩⟩⟩⟩⟩⟩⟩⟩⟩⟩⟩⟩⟩⟩⟩⟩⟩⟩⟩⟩⟩⟩⟩⟩⟩⟩⟩⟩⟩⟩⟩⟩⟩⟩⟩⟩⟩⟩⟩⟩⟩⟩⟩⟩⟩⟩⟩⟩⟩⟩⟩⟩⟩⟩⟩⟩⟩⟩⟩⟩⟩⟩⟩⟩⟩⟩⟩⟩⟩⟩⟩⟩⟩⟩⟩⟩⟩⟩⟩⟩⟩⟩⟩⟩⟩⟩⟩⟩⟩⟩⟩⟩⟩⟩⟩⟩⟩⟩⟩⟩⟩⟩⟩⟩⟩⟩⟩⟩⟩⟩⟩⟩⟩⟩⟩⟩⟩⟩⟩⟩⟩⟩⟩⟩⟩⟩⟩⟩⟩⟩⟩⟩⟩⟩⟩⟩⟩⟩⟩⟩⟩⟩⟩⟩⟩⟩⟩⟩⟩⟩⟩⟩⟩⟩⟩⟩⟩⟩⟩⟩⟩⟩⟩⟩⟩⟩⟩⟩⟩⟩⟩⟩⟩⟩⟩⟩⟩⟩⟩⟩⟩⟩⟩⟩⟩⟩⟩⟩⟩⟩⟩⟩⟩⟩⟩⟩⟩⟩⟩⟩⟩⟩⟩⟩⟩⟩⟩⟩⟩⟩⟩⟩⟩⟩⟩⟩⟩⟩⟩⟩⟩⟩⟩⟩⟩⟩⟩⟩⟩⟩⟩⟩⟩⟩⟩⟩⟩⟩⟩⟩⟩⟩⟩⟩⟩⟩, List.forall_mem_cons.mpr ⟨⟨A_BadNumber, q_BadNumber, kit_subT (by decide +kernel) kp_BadNumber_LookupError, e_BadNumber⟩, List.forall_mem_cons.mpr ⟨⟨A_BadNumber, q_BadNumber, kit_subT (by decide +kernel) kp_BadNumber_ValueError, e_BadNumber⟩, List.forall_mem_cons.mpr ⟨⟨A_BadOrder, q_BadOrder, kit_subT (by decide +kernel) kp_BadOrder_LookupError, e_BadOrder⟩, List.forall_mem_cons.mpr ⟨⟨A_BadOrder, q_BadOrder, kit_subT (by decide +kernel) kp_BadOrder_ValueError, e_BadOrder⟩, List.forall_mem_cons.mpr ⟨⟨A_BadWord, q_BadWord, kit_subT (by decide +kernel) kp_BadWord_LookupError, e_BadWord⟩, List.forall_mem_cons.mpr ⟨⟨A_BadWord, q_BadWord, kit_subT (by decide +kernel) kp_BadWord_ValueError, e_BadWord⟩, List.forall_mem_cons.mpr ⟨⟨A_TooLong, q_TooLong, kit_subT (by decide +kernel) kp_TooLong_LookupError, e_TooLong⟩, List.forall_mem_cons.mpr ⟨⟨A_TooLong, q_TooLong, kit_subT (by decide +kernel) kp_TooLong_ValueError, e_TooLong⟩, List.forall_mem_cons.mpr ⟨⟨A_BadSheet, q_BadSheet, kit_subT (by decide +kernel) kp_BadSheet_LookupError, e_BadSheet⟩, List.forall_mem_cons.mpr ⟨⟨A_BadSheet, q_BadSheet, kit_subT (by decide +kernel) kp_BadSheet_ValueError, e_BadSheet⟩, List.forall_mem_cons.mpr ⟨⟨A_BadSheets, q_BadSheets, kit_subT (by decide +kernel) kp_BadSheets_LookupError, e_BadSheets⟩, List.forall_mem_cons.mpr ⟨⟨A_BadSheets, q_BadSheets, kit_subT (by decide +kernel) kp_BadSheets_ValueError, e_BadSheets⟩, List.forall_mem_cons.mpr ⟨⟨A_BadLetter, q_BadLetter, kit_subT (by decide +kernel) kp_BadLetter_LookupError, e_BadLetter⟩, List.forall_mem_cons.mpr ⟨⟨A_BadLetter, q_BadLetter, kit_subT (by decide +kernel) kp_BadLetter_ValueError, e_BadLetter⟩, List.forall_mem_cons.mpr ⟨⟨A_BadForce, q_BadForce, kit_subT (by decide +kernel) kp_BadForce_LookupError, e_BadForce⟩, List.forall_mem_cons.mpr ⟨⟨A_BadForce, q_BadForce, kit_subT (by decide +kernel) kp_BadForce_ValueError, e_BadForce⟩, List.forall_mem_cons.mpr ⟨⟨A_TooStrong, q_TooStrong, kit_subT (by decide +kernel) kp_TooStrong_LookupError, e_TooStrong⟩, List.forall_mem_cons.mpr ⟨⟨A_TooStrong, q_TooStrong, kit_subT (by decide +kernel) kp_TooStrong_ValueError, e_TooStrong⟩, List.forall_mem_cons.mpr ⟨⟨A_Rejected, q_Rejected, kit_subT (by decide +kernel) kp_Rejected_LookupError, e_Rejected⟩, List.forall_mem_cons.mpr ⟨⟨A_Rejected, q_Rejected, kit_subT (by decide +kernel) kp_Rejected_ValueError, e_Rejected⟩, List.forall_mem_cons.mpr ⟨⟨A_BadText, q_BadText, kit_subT (by decide +kernel) kp_BadText_LookupError, e_BadText⟩, List.forall_mem_cons.mpr ⟨⟨A_BadText, q_BadText, kit_subT (by decide +kernel) kp_BadText_ValueError, e_BadText⟩, List.forall_mem_cons.mpr ⟨⟨A_NoWords, q_NoWords, kit_subT (by decide +kernel) kp_NoWords_LookupError, e_NoWords⟩, List.forall_mem_cons.mpr ⟨⟨A_NoWords, q_NoWords, kit_subT (by decide +kernel) kp_NoWords_ValueError, e_NoWords⟩, List.forall_mem_cons.mpr ⟨⟨A_LastSheet, q_LastSheet, kit_subT (by decide +kernel) kp_LastSheet_LookupError, e_LastSheet⟩, List.forall_mem_cons.mpr ⟨⟨A_LastSheet, q_LastSheet, kit_subT (by decide +kernel) kp_LastSheet_ValueError, e_LastSheet⟩, List.forall_mem_cons.mpr ⟨⟨A_Busy, q_Busy, kit_subT (by decide +kernel) kp_Busy_LookupError, e_Busy⟩, List.forall_mem_cons.mpr ⟨⟨A_Busy, q_Busy, kit_subT (by decide +kernel) kp_Busy_ValueError, e_Busy⟩, List.forall_mem_cons.mpr ⟨⟨A_TooManyEdits, q_TooManyEdits, kit_subT (by decide +kernel) kp_TooManyEdits_LookupError, e_TooManyEdits⟩, List.forall_mem_cons.mpr ⟨⟨A_TooManyEdits, q_TooManyEdits, kit_subT (by decide +kernel) kp_TooManyEdits_ValueError, e_TooManyEdits⟩, List.forall_mem_cons.mpr ⟨⟨A_NothingToUndo, q_NothingToUndo, kit_subT (by decide +kernel) kp_NothingToUndo_LookupError, e_NothingToUndo⟩, List.forall_mem_cons.mpr ⟨⟨A_NothingToUndo, q_NothingToUndo, kit_subT (by decide +kernel) kp_NothingToUndo_ValueError, e_NothingToUndo⟩, List.forall_mem_cons.mpr ⟨⟨A_BadBatch, q_BadBatch, kit_subT (by decide +kernel) kp_BadBatch_LookupError, e_BadBatch⟩, List.forall_mem_cons.mpr ⟨⟨A_BadBatch, q_BadBatch, kit_subT (by decide +kernel) kp_BadBatch_ValueError, e_BadBatch⟩, List.forall_mem_cons.mpr ⟨⟨A_NoSheet, q_NoSheet, kit_subT (by decide +kernel) kp_NoSheet_LookupError, e_NoSheet⟩, List.forall_mem_cons.mpr ⟨⟨A_NoSheet, q_NoSheet, kit_subT (by decide +kernel) kp_NoSheet_ValueError, e_NoSheet⟩, List.forall_mem_cons.mpr ⟨⟨A_NoPlace, q_NoPlace, kit_subT (by decide +kernel) kp_NoPlace_LookupError, e_NoPlace⟩, List.forall_mem_cons.mpr ⟨⟨A_NoPlace, q_NoPlace, kit_subT (by decide +kernel) kp_NoPlace_ValueError, e_NoPlace⟩, List.forall_mem_cons.mpr ⟨⟨A_NoIndex, q_NoIndex, kit_subT (by decide +kernel) kp_NoIndex_LookupError, e_NoIndex⟩, List.forall_mem_cons.mpr ⟨⟨A_NoIndex, q_NoIndex, kit_subT (by decide +kernel) kp_NoIndex_ValueError, e_NoIndex⟩, List.forall_mem_cons.mpr ⟨⟨A_NoVersion, q_NoVersion, kit_subT (by decide +kernel) kp_NoVersion_LookupError, e_NoVersion⟩, List.forall_mem_cons.mpr ⟨⟨A_NoVersion, q_NoVersion, kit_subT (by decide +kernel) kp_NoVersion_ValueError, e_NoVersion⟩, fun _ h => nomatch h⟩⟩⟩⟩⟩⟩⟩⟩⟩⟩⟩⟩⟩⟩⟩⟩⟩⟩⟩⟩⟩⟩⟩⟩⟩⟩⟩⟩⟩⟩⟩⟩⟩⟩⟩⟩⟩⟩⟩⟩⟩⟩⟩
  refine ⟨PySem.W.fnOf "law" "law" (defArgs s_law) (defBody s_law) (defScope s_law) .none kV7 dc7 pm7 an7 cd7 ct7, fun s v => .of_eq rfl, fun base _ _ => ?_⟩
  have b0 := F0.binds (ps := ["_law_script"]) fun _ _ _ _ _ _ us hl => match us, hl with | [_], _ => rfl
  have c_law_deck : Cal P w K mg base L2.CX0 1 "_law_deck" sp_law_deck := Cal.of (fn_law_deck F0 m_abs m_len) G0 k0 b0
  have b1 := F1.binds (ps := ["_law_deck_here", "_law_below"]) fun _ _ _ _ _ _ us hl => match us, hl with | [_, _], _ => rfl
  have c_law_draw : Cal P w K mg base L2.CX0 1 "_law_draw" sp_law_draw := Cal.of (fn_law_draw F1 m_len) G1 k1 b1
  have b2 := F2.binds (ps := ["_law_deck_here"]) fun _ _ _ _ _ _ us hl => match us, hl with | [_], _ => rfl
  have c_lawA_odd : Cal P w K mg base L2.CX0 2 "_law_odd" sp_lawA_odd := Cal.of (fn_lawA_odd F2 c_law_draw) G2 k2 b2
  have b3 := F3.binds (ps := ["_law_found", "_law_due"]) fun _ _ _ _ _ _ us hl => match us, hl with | [_, _], _ => rfl
  have c_lawA_same : Cal P w K mg base L2.CX0 1 "_law_same" sp_lawA_same := Cal.of (fn_lawA_same F3 m_repr) G3 k3 b3
  have b4 := F4.binds (ps := ["_law_e"]) fun _ _ _ _ _ _ us hl => match us, hl with | [_], _ => rfl
  have c_law_flags_of : Cal P w K mg base L2.CX0 1 "_law_flags_of" sp_law_flags_of := Cal.of (fn_law_flags_of F4 m_isinstance q_BadBatch q_BadForce q_BadLetter q_BadNumber q_BadOrder q_BadSheet q_BadSheets q_BadText q_BadWord q_Busy q_LastSheet q_NoIndex q_NoPlace q_NoSheet q_NoVersion q_NoWords q_NothingToUndo q_Rejected q_TooLong q_TooManyEdits q_TooStrong xt) G4 k4 b4
  have b5 := F5.binds (ps := ["_law_value"]) fun _ _ _ _ _ _ us hl => match us, hl with | [_], _ => rfl
  have c_law_errors : Cal P w K mg base L2.CX0 2 "_law_errors" sp_law_errors := Cal.of (fn_law_errors F5 x_BadBatch x_BadForce x_BadLetter x_BadNumber x_BadOrder x_BadSheet x_BadSheets x_BadText x_BadWord x_Busy x_LastSheet x_NoIndex x_NoPlace x_NoSheet x_NoVersion x_NoWords x_NothingToUndo x_Rejected x_TooLong x_TooManyEdits x_TooStrong) G5 k5 b5
  have b6 := F6.binds (ps := ["_law_value"]) fun _ _ _ _ _ _ us hl => match us, hl with | [_], _ => rfl
  have c_law_fields : Cal P w K mg base L2.CX0 2 "_law_fields" sp_law_fields := Cal.of (fn_law_fields F6 x_BadForce x_BadLetter x_BadNumber x_BadOrder x_BadSheet x_BadSheets x_BadText x_BadWord x_NoIndex x_NoPlace x_NoSheet x_NoVersion x_Rejected x_TooLong x_TooStrong r_BadForce_value r_BadLetter_value r_BadNumber_value r_BadOrder_value r_BadSheet_index r_BadSheets_error r_BadText_index r_BadWord_value r_NoIndex_index r_NoPlace_value r_NoSheet_value r_NoVersion_value r_Rejected_index r_TooLong_limit r_TooStrong_limit) G6 k6 b6
  exact fn_law F7 m_LookupError m_ValueError m_isinstance m_range g_BATCH g_HISTORY g_MAX_BLOCK g_MAX_SHEETS g_MAX_TIMES g_MAX_WORD c_law_deck c_law_errors c_law_fields c_law_flags_of c_lawA_odd c_lawA_same q_PadError xt
end DL
open PySem PySem.W PyProof.Rows
set_option maxHeartbeats 0 in
theorem PySem.Challenge.cw_carbonpad_k04_errors_and_limits_holds : PySem.Challenge.rw_carbonpad_k04_errors_and_limits.Holds := by
  w_on; o_law; k_head; (case hw => w_witness2)
  k_fill
  refine DL.end_g (l := PySem.Challenge.rw_carbonpad_k04_errors_and_limits) (n := 63) (k := 3) (x := "_law_script") (S := DL.sp_law) rfl (by decide) rfl ⟨rfl, by decide, by decide⟩ (fun w h Y => PySem.W.kIn_of Y) ?F DL.end_law
  case F =>
    intro w mg fa h KX G hmg
    refine' DL.all_mk KX G hmg ?a0 ?l0 ?c0 ?k0 ?a1 ?l1 ?c1 ?k1 ?a2 ?l2 ?c2 ?k2 ?a3 ?l3 ?c3 ?k3 ?a4 ?l4 ?c4 ?k4 ?a5 ?l5 ?c5 ?k5 ?a6 ?l6 ?c6 ?k6 ?a7 ?l7 ?c7 ?k7 ?z_LookupError ?z_ValueError ?z_abs ?z_isinstance ?z_len ?z_range ?z_repr ?y_BATCH ?y_HISTORY ?y_MAX_BLOCK ?y_MAX_SHEETS ?y_MAX_TIMES ?y_MAX_WORD ?ka_BadBatch ?kt_BadBatch ?kh_BadBatch ?ke_BadBatch ?ka_BadForce ?kt_BadForce ?kh_BadForce ?ke_BadForce ?ka_BadLetter ?kt_BadLetter ?kh_BadLetter ?ke_BadLetter ?ka_BadNumber ?kt_BadNumber ?kh_BadNumber ?ke_BadNumber ?ka_BadOrder ?kt_BadOrder ?kh_BadOrder ?ke_BadOrder ?ka_BadSheet ?kt_BadSheet ?kh_BadSheet ?ke_BadSheet ?ka_BadSheets ?kt_BadSheets ?kh_BadSheets ?ke_BadSheets ?ka_BadText ?kt_BadText ?kh_BadText ?ke_BadText ?ka_BadWord ?kt_BadWord ?kh_BadWord ?ke_BadWord ?ka_Busy ?kt_Busy ?kh_Busy ?ke_Busy ?ka_LastSheet ?kt_LastSheet ?kh_LastSheet ?ke_LastSheet ?ka_NoIndex ?kt_NoIndex ?kh_NoIndex ?ke_NoIndex ?ka_NoPlace ?kt_NoPlace ?kh_NoPlace ?ke_NoPlace ?ka_NoSheet ?kt_NoSheet ?kh_NoSheet ?ke_NoSheet ?ka_NoVersion ?kt_NoVersion ?kh_NoVersion ?ke_NoVersion ?ka_NoWords ?kt_NoWords ?kh_NoWords ?ke_NoWords ?ka_NothingToUndo ?kt_NothingToUndo ?kh_NothingToUndo ?ke_NothingToUndo ?ka_PadError ?kt_PadError ?kh_PadError ?ke_PadError ?ka_Rejected ?kt_Rejected ?kh_Rejected ?ke_Rejected ?ka_TooLong ?kt_TooLong ?kh_TooLong ?ke_TooLong ?ka_TooManyEdits ?kt_TooManyEdits ?kh_TooManyEdits ?ke_TooManyEdits ?ka_TooStrong ?kt_TooStrong ?kh_TooStrong ?ke_TooStrong ?kk_BadNumber ?kg_BadNumber ?kj_BadNumber ?kc_BadNumber ?km_BadNumber ?kz_BadNumber ?ks_BadNumber ?ki_BadNumber ?kf_BadNumber ?kn_BadNumber ?kl_BadNumber ?kd_BadNumber ?kq_BadNumber ?ko_BadNumber ?kk_BadOrder ?kg_BadOrder ?kj_BadOrder ?kc_BadOrder ?km_BadOrder ?kz_BadOrder ?ks_BadOrder ?ki_BadOrder ?kf_BadOrder ?kn_BadOrder ?kl_BadOrder ?kd_BadOrder ?kq_BadOrder ?ko_BadOrder ?kk_BadWord ?kg_BadWord ?kj_BadWord ?kc_BadWord ?km_BadWord ?kz_BadWord ?ks_BadWord ?ki_BadWord ?kf_BadWord ?kn_BadWord ?kl_BadWord ?kd_BadWord ?kq_BadWord ?ko_BadWord ?kk_TooLong ?kg_TooLong ?kj_TooLong ?kc_TooLong ?km_TooLong ?kz_TooLong ?ks_TooLong ?ki_TooLong ?kf_TooLong ?kn_TooLong ?kl_TooLong ?kd_TooLong ?kq_TooLong ?ko_TooLong ?kk_BadSheet ?kg_BadSheet ?kj_BadSheet ?kc_BadSheet ?km_BadSheet ?kz_BadSheet ?ks_BadSheet ?ki_BadSheet ?kf_BadSheet ?kn_BadSheet ?kl_BadSheet ?kd_BadSheet ?kq_BadSheet ?ko_BadSheet ?kk_BadSheets ?kg_BadSheets ?kj_BadSheets ?kc_BadSheets ?km_BadSheets ?kz_BadSheets ?ks_BadSheets ?ki_BadSheets ?kf_BadSheets ?kn_BadSheets ?kl_BadSheets ?kd_BadSheets ?kq_BadSheets ?ko_BadSheets ?kk_BadLetter ?kg_BadLetter ?kj_BadLetter ?kc_BadLetter ?km_BadLetter ?kz_BadLetter ?ks_BadLetter ?ki_BadLetter ?kf_BadLetter ?kn_BadLetter ?kl_BadLetter ?kd_BadLetter ?kq_BadLetter ?ko_BadLetter ?kk_BadForce ?kg_BadForce ?kj_BadForce ?kc_BadForce ?km_BadForce ?kz_BadForce ?ks_BadForce ?ki_BadForce ?kf_BadForce ?kn_BadForce ?kl_BadForce ?kd_BadForce ?kq_BadForce ?ko_BadForce ?kk_TooStrong ?kg_TooStrong ?kj_TooStrong ?kc_TooStrong ?km_TooStrong ?kz_TooStrong ?ks_TooStrong ?ki_TooStrong ?kf_TooStrong ?kn_TooStrong ?kl_TooStrong ?kd_TooStrong ?kq_TooStrong ?ko_TooStrong ?kk_Rejected ?kg_Rejected ?kj_Rejected ?kc_Rejected ?km_Rejected ?kz_Rejected ?ks_Rejected ?ki_Rejected ?kf_Rejected ?kn_Rejected ?kl_Rejected ?kd_Rejected ?kq_Rejected ?ko_Rejected ?kk_BadText ?kg_BadText ?kj_BadText ?kc_BadText ?km_BadText ?kz_BadText ?ks_BadText ?ki_BadText ?kf_BadText ?kn_BadText ?kl_BadText ?kd_BadText ?kq_BadText ?ko_BadText ?kk_NoWords ?kg_NoWords ?kj_NoWords ?kc_NoWords ?km_NoWords ?kz_NoWords ?kx_NoWords ?kk_LastSheet ?kg_LastSheet ?kj_LastSheet ?kc_LastSheet ?km_LastSheet ?kz_LastSheet ?kx_LastSheet ?kk_Busy ?kg_Busy ?kj_Busy ?kc_Busy ?km_Busy ?kz_Busy ?kx_Busy ?kk_TooManyEdits ?kg_TooManyEdits ?kj_TooManyEdits ?kc_TooManyEdits ?km_TooManyEdits ?kz_TooManyEdits ?kx_TooManyEdits ?kk_NothingToUndo ?kg_NothingToUndo ?kj_NothingToUndo ?kc_NothingToUndo ?km_NothingToUndo ?kz_NothingToUndo ?kx_NothingToUndo ?kk_BadBatch ?kg_BadBatch ?kj_BadBatch ?kc_BadBatch ?km_BadBatch ?kz_BadBatch ?kx_BadBatch ?kk_NoSheet ?kg_NoSheet ?kj_NoSheet ?kc_NoSheet ?km_NoSheet ?kz_NoSheet ?ks_NoSheet ?ki_NoSheet ?kf_NoSheet ?kn_NoSheet ?kl_NoSheet ?kd_NoSheet ?kq_NoSheet ?ko_NoSheet ?kk_NoPlace ?kg_NoPlace ?kj_NoPlace ?kc_NoPlace ?km_NoPlace ?kz_NoPlace ?ks_NoPlace ?ki_NoPlace ?kf_NoPlace ?kn_NoPlace ?kl_NoPlace ?kd_NoPlace ?kq_NoPlace ?ko_NoPlace ?kk_NoIndex ?kg_NoIndex ?kj_NoIndex ?kc_NoIndex ?km_NoIndex ?kz_NoIndex ?ks_NoIndex ?ki_NoIndex ?kf_NoIndex ?kn_NoIndex ?kl_NoIndex ?kd_NoIndex ?kq_NoIndex ?ko_NoIndex ?kk_NoVersion ?kg_NoVersion ?kj_NoVersion ?kc_NoVersion ?km_NoVersion ?kz_NoVersion ?ks_NoVersion ?ki_NoVersion ?kf_NoVersion ?kn_NoVersion ?kl_NoVersion ?kd_NoVersion ?kq_NoVersion ?ko_NoVersion ?kp_BadNumber_BadBatch ?kp_BadNumber_BadForce ?kp_BadNumber_BadLetter ?kp_BadNumber_BadOrder ?kp_BadNumber_BadSheet ?kp_BadNumber_BadSheets ?kp_BadNumber_BadText ?kp_BadNumber_BadWord ?kp_BadNumber_Busy ?kp_BadNumber_LastSheet ?kp_BadNumber_NoIndex ?kp_BadNumber_NoPlace ?kp_BadNumber_NoSheet ?kp_BadNumber_NoVersion ?kp_BadNumber_NoWords ?kp_BadNumber_NothingToUndo ?kp_BadNumber_PadError ?kp_BadNumber_Rejected ?kp_BadNumber_TooLong ?kp_BadNumber_TooManyEdits ?kp_BadNumber_TooStrong ?kp_BadOrder_BadBatch ?kp_BadOrder_BadForce ?kp_BadOrder_BadLetter ?kp_BadOrder_BadNumber ?kp_BadOrder_BadSheet ?kp_BadOrder_BadSheets ?kp_BadOrder_BadText ?kp_BadOrder_BadWord ?kp_BadOrder_Busy ?kp_BadOrder_LastSheet ?kp_BadOrder_NoIndex ?kp_BadOrder_NoPlace ?kp_BadOrder_NoSheet ?kp_BadOrder_NoVersion ?kp_BadOrder_NoWords ?kp_BadOrder_NothingToUndo ?kp_BadOrder_PadError ?kp_BadOrder_Rejected ?kp_BadOrder_TooLong ?kp_BadOrder_TooManyEdits ?kp_BadOrder_TooStrong ?kp_BadWord_BadBatch ?kp_BadWord_BadForce ?kp_BadWord_BadLetter ?kp_BadWord_BadNumber ?kp_BadWord_BadOrder ?kp_BadWord_BadSheet ?kp_BadWord_BadSheets ?kp_BadWord_BadText ?kp_BadWord_Busy ?kp_BadWord_LastSheet ?kp_BadWord_NoIndex ?kp_BadWord_NoPlace ?kp_BadWord_NoSheet ?kp_BadWord_NoVersion ?kp_BadWord_NoWords ?kp_BadWord_NothingToUndo ?kp_BadWord_PadError ?kp_BadWord_Rejected ?kp_BadWord_TooLong ?kp_BadWord_TooManyEdits ?kp_BadWord_TooStrong ?kp_TooLong_BadBatch ?kp_TooLong_BadForce ?kp_TooLong_BadLetter ?kp_TooLong_BadNumber ?kp_TooLong_BadOrder ?kp_TooLong_BadSheet ?kp_TooLong_BadSheets ?kp_TooLong_BadText ?kp_TooLong_BadWord ?kp_TooLong_Busy ?kp_TooLong_LastSheet ?kp_TooLong_NoIndex ?kp_TooLong_NoPlace ?kp_TooLong_NoSheet ?kp_TooLong_NoVersion ?kp_TooLong_NoWords ?kp_TooLong_NothingToUndo ?kp_TooLong_PadError ?kp_TooLong_Rejected ?kp_TooLong_TooManyEdits ?kp_TooLong_TooStrong ?kp_BadSheet_BadBatch ?kp_BadSheet_BadForce ?kp_BadSheet_BadLetter ?kp_BadSheet_BadNumber ?kp_BadSheet_BadOrder ?kp_BadSheet_BadSheets ?kp_BadSheet_BadText ?kp_BadSheet_BadWord ?kp_BadSheet_Busy ?kp_BadSheet_LastSheet ?kp_BadSheet_NoIndex ?kp_BadSheet_NoPlace ?kp_BadSheet_NoSheet ?kp_BadSheet_NoVersion ?kp_BadSheet_NoWords ?kp_BadSheet_NothingToUndo ?kp_BadSheet_PadError ?kp_BadSheet_Rejected ?kp_BadSheet_TooLong ?kp_BadSheet_TooManyEdits ?kp_BadSheet_TooStrong ?kp_BadSheets_BadBatch ?kp_BadSheets_BadForce ?kp_BadSheets_BadLetter ?kp_BadSheets_BadNumber ?kp_BadSheets_BadOrder ?kp_BadSheets_BadSheet ?kp_BadSheets_BadText ?kp_BadSheets_BadWord ?kp_BadSheets_Busy ?kp_BadSheets_LastSheet ?kp_BadSheets_NoIndex ?kp_BadSheets_NoPlace ?kp_BadSheets_NoSheet ?kp_BadSheets_NoVersion ?kp_BadSheets_NoWords ?kp_BadSheets_NothingToUndo ?kp_BadSheets_PadError ?kp_BadSheets_Rejected ?kp_BadSheets_TooLong ?kp_BadSheets_TooManyEdits ?kp_BadSheets_TooStrong ?kp_BadLetter_BadBatch ?kp_BadLetter_BadForce ?kp_BadLetter_BadNumber ?kp_BadLetter_BadOrder ?kp_BadLetter_BadSheet ?kp_BadLetter_BadSheets ?kp_BadLetter_BadText ?kp_BadLetter_BadWord ?kp_BadLetter_Busy ?kp_BadLetter_LastSheet ?kp_BadLetter_NoIndex ?kp_BadLetter_NoPlace ?kp_BadLetter_NoSheet ?kp_BadLetter_NoVersion ?kp_BadLetter_NoWords ?kp_BadLetter_NothingToUndo ?kp_BadLetter_PadError ?kp_BadLetter_Rejected ?kp_BadLetter_TooLong ?kp_BadLetter_TooManyEdits ?kp_BadLetter_TooStrong ?kp_BadForce_BadBatch ?kp_BadForce_BadLetter ?kp_BadForce_BadNumber ?kp_BadForce_BadOrder ?kp_BadForce_BadSheet ?kp_BadForce_BadSheets ?kp_BadForce_BadText ?kp_BadForce_BadWord ?kp_BadForce_Busy ?kp_BadForce_LastSheet ?kp_BadForce_NoIndex ?kp_BadForce_NoPlace ?kp_BadForce_NoSheet ?kp_BadForce_NoVersion ?kp_BadForce_NoWords ?kp_BadForce_NothingToUndo ?kp_BadForce_PadError ?kp_BadForce_Rejected ?kp_BadForce_TooLong ?kp_BadForce_TooManyEdits ?kp_BadForce_TooStrong ?kp_TooStrong_BadBatch ?kp_TooStrong_BadForce ?kp_TooStrong_BadLetter ?kp_TooStrong_BadNumber ?kp_TooStrong_BadOrder ?kp_TooStrong_BadSheet ?kp_TooStrong_BadSheets ?kp_TooStrong_BadText ?kp_TooStrong_BadWord ?kp_TooStrong_Busy ?kp_TooStrong_LastSheet ?kp_TooStrong_NoIndex ?kp_TooStrong_NoPlace ?kp_TooStrong_NoSheet ?kp_TooStrong_NoVersion ?kp_TooStrong_NoWords ?kp_TooStrong_NothingToUndo ?kp_TooStrong_PadError ?kp_TooStrong_Rejected ?kp_TooStrong_TooLong ?kp_TooStrong_TooManyEdits ?kp_Rejected_BadBatch ?kp_Rejected_BadForce ?kp_Rejected_BadLetter ?kp_Rejected_BadNumber ?kp_Rejected_BadOrder ?kp_Rejected_BadSheet ?kp_Rejected_BadSheets ?kp_Rejected_BadText ?kp_Rejected_BadWord ?kp_Rejected_Busy ?kp_Rejected_LastSheet ?kp_Rejected_NoIndex ?kp_Rejected_NoPlace ?kp_Rejected_NoSheet ?kp_Rejected_NoVersion ?kp_Rejected_NoWords ?kp_Rejected_NothingToUndo ?kp_Rejected_PadError ?kp_Rejected_TooLong ?kp_Rejected_TooManyEdits ?kp_Rejected_TooStrong ?kp_BadText_BadBatch ?kp_BadText_BadForce ?kp_BadText_BadLetter ?kp_BadText_BadNumber ?kp_BadText_BadOrder ?kp_BadText_BadSheet ?kp_BadText_BadSheets ?kp_BadText_BadWord ?kp_BadText_Busy ?kp_BadText_LastSheet ?kp_BadText_NoIndex ?kp_BadText_NoPlace ?kp_BadText_NoSheet ?kp_BadText_NoVersion ?kp_BadText_NoWords ?kp_BadText_NothingToUndo ?kp_BadText_PadError ?kp_BadText_Rejected ?kp_BadText_TooLong ?kp_BadText_TooManyEdits ?kp_BadText_TooStrong ?kp_NoWords_BadBatch ?kp_NoWords_BadForce ?kp_NoWords_BadLetter ?kp_NoWords_BadNumber ?kp_NoWords_BadOrder ?kp_NoWords_BadSheet ?kp_NoWords_BadSheets ?kp_NoWords_BadText ?kp_NoWords_BadWord ?kp_NoWords_Busy ?kp_NoWords_LastSheet ?kp_NoWords_NoIndex ?kp_NoWords_NoPlace ?kp_NoWords_NoSheet ?kp_NoWords_NoVersion ?kp_NoWords_NothingToUndo ?kp_NoWords_PadError ?kp_NoWords_Rejected ?kp_NoWords_TooLong ?kp_NoWords_TooManyEdits ?kp_NoWords_TooStrong ?kp_LastSheet_BadBatch ?kp_LastSheet_BadForce ?kp_LastSheet_BadLetter ?kp_LastSheet_BadNumber ?kp_LastSheet_BadOrder ?kp_LastSheet_BadSheet ?kp_LastSheet_BadSheets ?kp_LastSheet_BadText ?kp_LastSheet_BadWord ?kp_LastSheet_Busy ?kp_LastSheet_NoIndex ?kp_LastSheet_NoPlace ?kp_LastSheet_NoSheet ?kp_LastSheet_NoVersion ?kp_LastSheet_NoWords ?kp_LastSheet_NothingToUndo ?kp_LastSheet_PadError ?kp_LastSheet_Rejected ?kp_LastSheet_TooLong ?kp_LastSheet_TooManyEdits ?kp_LastSheet_TooStrong ?kp_Busy_BadBatch ?kp_Busy_BadForce ?kp_Busy_BadLetter ?kp_Busy_BadNumber ?kp_Busy_BadOrder ?kp_Busy_BadSheet ?kp_Busy_BadSheets ?kp_Busy_BadText ?kp_Busy_BadWord ?kp_Busy_LastSheet ?kp_Busy_NoIndex ?kp_Busy_NoPlace ?kp_Busy_NoSheet ?kp_Busy_NoVersion ?kp_Busy_NoWords ?kp_Busy_NothingToUndo ?kp_Busy_PadError ?kp_Busy_Rejected ?kp_Busy_TooLong ?kp_Busy_TooManyEdits ?kp_Busy_TooStrong ?kp_TooManyEdits_BadBatch ?kp_TooManyEdits_BadForce ?kp_TooManyEdits_BadLetter ?kp_TooManyEdits_BadNumber ?kp_TooManyEdits_BadOrder ?kp_TooManyEdits_BadSheet ?kp_TooManyEdits_BadSheets ?kp_TooManyEdits_BadText ?kp_TooManyEdits_BadWord ?kp_TooManyEdits_Busy ?kp_TooManyEdits_LastSheet ?kp_TooManyEdits_NoIndex ?kp_TooManyEdits_NoPlace ?kp_TooManyEdits_NoSheet ?kp_TooManyEdits_NoVersion ?kp_TooManyEdits_NoWords ?kp_TooManyEdits_NothingToUndo ?kp_TooManyEdits_PadError ?kp_TooManyEdits_Rejected ?kp_TooManyEdits_TooLong ?kp_TooManyEdits_TooStrong ?kp_NothingToUndo_BadBatch ?kp_NothingToUndo_BadForce ?kp_NothingToUndo_BadLetter ?kp_NothingToUndo_BadNumber ?kp_NothingToUndo_BadOrder ?kp_NothingToUndo_BadSheet ?kp_NothingToUndo_BadSheets ?kp_NothingToUndo_BadText ?kp_NothingToUndo_BadWord ?kp_NothingToUndo_Busy ?kp_NothingToUndo_LastSheet ?kp_NothingToUndo_NoIndex ?kp_NothingToUndo_NoPlace ?kp_NothingToUndo_NoSheet ?kp_NothingToUndo_NoVersion ?kp_NothingToUndo_NoWords ?kp_NothingToUndo_PadError ?kp_NothingToUndo_Rejected ?kp_NothingToUndo_TooLong ?kp_NothingToUndo_TooManyEdits ?kp_NothingToUndo_TooStrong ?kp_BadBatch_BadForce ?kp_BadBatch_BadLetter ?kp_BadBatch_BadNumber ?kp_BadBatch_BadOrder ?kp_BadBatch_BadSheet ?kp_BadBatch_BadSheets ?kp_BadBatch_BadText ?kp_BadBatch_BadWord ?kp_BadBatch_Busy ?kp_BadBatch_LastSheet ?kp_BadBatch_NoIndex ?kp_BadBatch_NoPlace ?kp_BadBatch_NoSheet ?kp_BadBatch_NoVersion ?kp_BadBatch_NoWords ?kp_BadBatch_NothingToUndo ?kp_BadBatch_PadError ?kp_BadBatch_Rejected ?kp_BadBatch_TooLong ?kp_BadBatch_TooManyEdits ?kp_BadBatch_TooStrong ?kp_NoSheet_BadBatch ?kp_NoSheet_BadForce ?kp_NoSheet_BadLetter ?kp_NoSheet_BadNumber ?kp_NoSheet_BadOrder ?kp_NoSheet_BadSheet ?kp_NoSheet_BadSheets ?kp_NoSheet_BadText ?kp_NoSheet_BadWord ?kp_NoSheet_Busy ?kp_NoSheet_LastSheet ?kp_NoSheet_NoIndex ?kp_NoSheet_NoPlace ?kp_NoSheet_NoVersion ?kp_NoSheet_NoWords ?kp_NoSheet_NothingToUndo ?kp_NoSheet_PadError ?kp_NoSheet_Rejected ?kp_NoSheet_TooLong ?kp_NoSheet_TooManyEdits ?kp_NoSheet_TooStrong ?kp_NoPlace_BadBatch ?kp_NoPlace_BadForce ?kp_NoPlace_BadLetter ?kp_NoPlace_BadNumber ?kp_NoPlace_BadOrder ?kp_NoPlace_BadSheet ?kp_NoPlace_BadSheets ?kp_NoPlace_BadText ?kp_NoPlace_BadWord ?kp_NoPlace_Busy ?kp_NoPlace_LastSheet ?kp_NoPlace_NoIndex ?kp_NoPlace_NoSheet ?kp_NoPlace_NoVersion ?kp_NoPlace_NoWords ?kp_NoPlace_NothingToUndo ?kp_NoPlace_PadError ?kp_NoPlace_Rejected ?kp_NoPlace_TooLong ?kp_NoPlace_TooManyEdits ?kp_NoPlace_TooStrong ?kp_NoIndex_BadBatch ?kp_NoIndex_BadForce ?kp_NoIndex_BadLetter ?kp_NoIndex_BadNumber ?kp_NoIndex_BadOrder ?kp_NoIndex_BadSheet ?kp_NoIndex_BadSheets ?kp_NoIndex_BadText ?kp_NoIndex_BadWord ?kp_NoIndex_Busy ?kp_NoIndex_LastSheet ?kp_NoIndex_NoPlace ?kp_NoIndex_NoSheet ?kp_NoIndex_NoVersion ?kp_NoIndex_NoWords ?kp_NoIndex_NothingToUndo ?kp_NoIndex_PadError ?kp_NoIndex_Rejected ?kp_NoIndex_TooLong ?kp_NoIndex_TooManyEdits ?kp_NoIndex_TooStrong ?kp_NoVersion_BadBatch ?kp_NoVersion_BadForce ?kp_NoVersion_BadLetter ?kp_NoVersion_BadNumber ?kp_NoVersion_BadOrder ?kp_NoVersion_BadSheet ?kp_NoVersion_BadSheets ?kp_NoVersion_BadText ?kp_NoVersion_BadWord ?kp_NoVersion_Busy ?kp_NoVersion_LastSheet ?kp_NoVersion_NoIndex ?kp_NoVersion_NoPlace ?kp_NoVersion_NoSheet ?kp_NoVersion_NoWords ?kp_NoVersion_NothingToUndo ?kp_NoVersion_PadError ?kp_NoVersion_Rejected ?kp_NoVersion_TooLong ?kp_NoVersion_TooManyEdits ?kp_NoVersion_TooStrong ?kp_BadNumber_LookupError ?kp_BadNumber_ValueError ?kp_BadOrder_LookupError ?kp_BadOrder_ValueError ?kp_BadWord_LookupError ?kp_BadWord_ValueError ?kp_TooLong_LookupError ?kp_TooLong_ValueError ?kp_BadSheet_LookupError ?kp_BadSheet_ValueError ?kp_BadSheets_LookupError ?kp_BadSheets_ValueError ?kp_BadLetter_LookupError ?kp_BadLetter_ValueError ?kp_BadForce_LookupError ?kp_BadForce_ValueError ?kp_TooStrong_LookupError ?kp_TooStrong_ValueError ?kp_Rejected_LookupError ?kp_Rejected_ValueError ?kp_BadText_LookupError ?kp_BadText_ValueError ?kp_NoWords_LookupError ?kp_NoWords_ValueError ?kp_LastSheet_LookupError ?kp_LastSheet_ValueError ?kp_Busy_LookupError ?kp_Busy_ValueError ?kp_TooManyEdits_LookupError ?kp_TooManyEdits_ValueError ?kp_NothingToUndo_LookupError ?kp_NothingToUndo_ValueError ?kp_BadBatch_LookupError ?kp_BadBatch_ValueError ?kp_NoSheet_LookupError ?kp_NoSheet_ValueError ?kp_NoPlace_LookupError ?kp_NoPlace_ValueError ?kp_NoIndex_LookupError ?kp_NoIndex_ValueError ?kp_NoVersion_LookupError ?kp_NoVersion_ValueError ?kS ?kT
    (case a0 => k_is); (case l0 => k_is); (case c0 => k_is); (case k0 => k_is)
    (case a1 => k_is); (case l1 => k_is); (case c1 => k_is); (case k1 => k_is)
    (case a2 => k_is); (case l2 => k_is); (case c2 => k_is); (case k2 => k_is)
    (case a3 => k_is); (case l3 => k_is); (case c3 => k_is); (case k3 => k_is)
    (case a4 => k_is); (case l4 => k_is); (case c4 => k_is); (case k4 => k_is)
    (case a5 => k_is); (case l5 => k_is); (case c5 => k_is); (case k5 => k_is)
    (case a6 => k_is); (case l6 => k_is); (case c6 => k_is); (case k6 => k_is)
    (case a7 => k_is); (case l7 => k_is); (case c7 => k_is); (case k7 => k_is)
    (case z_LookupError => k_is); (case z_ValueError => k_is); (case z_abs => k_is); (case z_isinstance => k_is)
    (case z_len => k_is); (case z_range => k_is); (case z_repr => k_is); (case y_BATCH => k_is)
    (case y_HISTORY => k_is); (case y_MAX_BLOCK => k_is); (case y_MAX_SHEETS => k_is); (case y_MAX_TIMES => k_is)
    (case y_MAX_WORD => k_is); (case ka_BadBatch => k_is); (case kt_BadBatch => k_is); (case kh_BadBatch => k_is)
    (case ke_BadBatch => k_is); (case ka_BadForce => k_is); (case kt_BadForce => k_is); (case kh_BadForce => k_is)
    (case ke_BadForce => k_is); (case ka_BadLetter => k_is); (case kt_BadLetter => k_is); (case kh_BadLetter => k_is)
    (case ke_BadLetter => k_is); (case ka_BadNumber => k_is); (case kt_BadNumber => k_is); (case kh_BadNumber => k_is)
    (case ke_BadNumber => k_is); (case ka_BadOrder => k_is); (case kt_BadOrder => k_is); (case kh_BadOrder => k_is)
    (case ke_BadOrder => k_is); (case ka_BadSheet => k_is); (case kt_BadSheet => k_is); (case kh_BadSheet => k_is)
    (case ke_BadSheet => k_is); (case ka_BadSheets => k_is); (case kt_BadSheets => k_is); (case kh_BadSheets => k_is)
    (case ke_BadSheets => k_is); (case ka_BadText => k_is); (case kt_BadText => k_is); (case kh_BadText => k_is)
    (case ke_BadText => k_is); (case ka_BadWord => k_is); (case kt_BadWord => k_is); (case kh_BadWord => k_is)
    (case ke_BadWord => k_is); (case ka_Busy => k_is); (case kt_Busy => k_is); (case kh_Busy => k_is)
    (case ke_Busy => k_is); (case ka_LastSheet => k_is); (case kt_LastSheet => k_is); (case kh_LastSheet => k_is)
    (case ke_LastSheet => k_is); (case ka_NoIndex => k_is); (case kt_NoIndex => k_is); (case kh_NoIndex => k_is)
    (case ke_NoIndex => k_is); (case ka_NoPlace => k_is); (case kt_NoPlace => k_is); (case kh_NoPlace => k_is)
    (case ke_NoPlace => k_is); (case ka_NoSheet => k_is); (case kt_NoSheet => k_is); (case kh_NoSheet => k_is)
    (case ke_NoSheet => k_is); (case ka_NoVersion => k_is); (case kt_NoVersion => k_is); (case kh_NoVersion => k_is)
    (case ke_NoVersion => k_is); (case ka_NoWords => k_is); (case kt_NoWords => k_is); (case kh_NoWords => k_is)
    (case ke_NoWords => k_is); (case ka_NothingToUndo => k_is); (case kt_NothingToUndo => k_is); (case kh_NothingToUndo => k_is)
    (case ke_NothingToUndo => k_is); (case ka_PadError => k_is); (case kt_PadError => k_is); (case kh_PadError => k_is)
    (case ke_PadError => k_is); (case ka_Rejected => k_is); (case kt_Rejected => k_is); (case kh_Rejected => k_is)
    (case ke_Rejected => k_is); (case ka_TooLong => k_is); (case kt_TooLong => k_is); (case kh_TooLong => k_is)
    (case ke_TooLong => k_is); (case ka_TooManyEdits => k_is); (case kt_TooManyEdits => k_is); (case kh_TooManyEdits => k_is)
    (case ke_TooManyEdits => k_is); (case ka_TooStrong => k_is); (case kt_TooStrong => k_is); (case kh_TooStrong => k_is)
    (case ke_TooStrong => k_is); (case kk_BadNumber => k_is); (case kg_BadNumber => k_is); (case kj_BadNumber => k_is)
    (case kc_BadNumber => k_is); (case km_BadNumber => k_is); (case kz_BadNumber => k_is); (case ks_BadNumber => k_is)
    (case ki_BadNumber => k_is); (case kf_BadNumber => k_is); (case kn_BadNumber => k_is); (case kl_BadNumber => k_is)
    (case kd_BadNumber => k_is); (case kq_BadNumber => kx_is); (case ko_BadNumber => kx_is); (case kk_BadOrder => k_is)
    (case kg_BadOrder => k_is); (case kj_BadOrder => k_is); (case kc_BadOrder => k_is); (case km_BadOrder => k_is)
    (case kz_BadOrder => k_is); (case ks_BadOrder => k_is); (case ki_BadOrder => k_is); (case kf_BadOrder => k_is)
    (case kn_BadOrder => k_is); (case kl_BadOrder => k_is); (case kd_BadOrder => k_is); (case kq_BadOrder => kx_is)
    (case ko_BadOrder => kx_is); (case kk_BadWord => k_is); (case kg_BadWord => k_is); (case kj_BadWord => k_is)
    (case kc_BadWord => k_is); (case km_BadWord => k_is); (case kz_BadWord => k_is); (case ks_BadWord => k_is)
    (case ki_BadWord => k_is); (case kf_BadWord => k_is); (case kn_BadWord => k_is); (case kl_BadWord => k_is)
    (case kd_BadWord => k_is); (case kq_BadWord => kx_is); (case ko_BadWord => kx_is); (case kk_TooLong => k_is)
    (case kg_TooLong => k_is); (case kj_TooLong => k_is); (case kc_TooLong => k_is); (case km_TooLong => k_is)
    (case kz_TooLong => k_is); (case ks_TooLong => k_is); (case ki_TooLong => k_is); (case kf_TooLong => k_is)
    (case kn_TooLong => k_is); (case kl_TooLong => k_is); (case kd_TooLong => k_is); (case kq_TooLong => kx_is)
    (case ko_TooLong => kx_is); (case kk_BadSheet => k_is); (case kg_BadSheet => k_is); (case kj_BadSheet => k_is)
    (case kc_BadSheet => k_is); (case km_BadSheet => k_is); (case kz_BadSheet => k_is); (case ks_BadSheet => k_is)
    (case ki_BadSheet => k_is); (case kf_BadSheet => k_is); (case kn_BadSheet => k_is); (case kl_BadSheet => k_is)
    (case kd_BadSheet => k_is); (case kq_BadSheet => kx_is); (case ko_BadSheet => kx_is); (case kk_BadSheets => k_is)
    (case kg_BadSheets => k_is); (case kj_BadSheets => k_is); (case kc_BadSheets => k_is); (case km_BadSheets => k_is)
    (case kz_BadSheets => k_is); (case ks_BadSheets => k_is); (case ki_BadSheets => k_is); (case kf_BadSheets => k_is)
    (case kn_BadSheets => k_is); (case kl_BadSheets => k_is); (case kd_BadSheets => k_is); (case kq_BadSheets => kx_is)
    (case ko_BadSheets => kx_is); (case kk_BadLetter => k_is); (case kg_BadLetter => k_is); (case kj_BadLetter => k_is)
    (case kc_BadLetter => k_is); (case km_BadLetter => k_is); (case kz_BadLetter => k_is); (case ks_BadLetter => k_is)
    (case ki_BadLetter => k_is); (case kf_BadLetter => k_is); (case kn_BadLetter => k_is); (case kl_BadLetter => k_is)
    (case kd_BadLetter => k_is); (case kq_BadLetter => kx_is); (case ko_BadLetter => kx_is); (case kk_BadForce => k_is)
    (case kg_BadForce => k_is); (case kj_BadForce => k_is); (case kc_BadForce => k_is); (case km_BadForce => k_is)
    (case kz_BadForce => k_is); (case ks_BadForce => k_is); (case ki_BadForce => k_is); (case kf_BadForce => k_is)
    (case kn_BadForce => k_is); (case kl_BadForce => k_is); (case kd_BadForce => k_is); (case kq_BadForce => kx_is)
    (case ko_BadForce => kx_is); (case kk_TooStrong => k_is); (case kg_TooStrong => k_is); (case kj_TooStrong => k_is)
    (case kc_TooStrong => k_is); (case km_TooStrong => k_is); (case kz_TooStrong => k_is); (case ks_TooStrong => k_is)
    (case ki_TooStrong => k_is); (case kf_TooStrong => k_is); (case kn_TooStrong => k_is); (case kl_TooStrong => k_is)
    (case kd_TooStrong => k_is); (case kq_TooStrong => kx_is); (case ko_TooStrong => kx_is); (case kk_Rejected => k_is)
    (case kg_Rejected => k_is); (case kj_Rejected => k_is); (case kc_Rejected => k_is); (case km_Rejected => k_is)
    (case kz_Rejected => k_is); (case ks_Rejected => k_is); (case ki_Rejected => k_is); (case kf_Rejected => k_is)
    (case kn_Rejected => k_is); (case kl_Rejected => k_is); (case kd_Rejected => k_is); (case kq_Rejected => kx_is)
    (case ko_Rejected => kx_is); (case kk_BadText => k_is); (case kg_BadText => k_is); (case kj_BadText => k_is)
    (case kc_BadText => k_is); (case km_BadText => k_is); (case kz_BadText => k_is); (case ks_BadText => k_is)
    (case ki_BadText => k_is); (case kf_BadText => k_is); (case kn_BadText => k_is); (case kl_BadText => k_is)
    (case kd_BadText => k_is); (case kq_BadText => kx_is); (case ko_BadText => kx_is); (case kk_NoWords => k_is)
    (case kg_NoWords => k_is); (case kj_NoWords => k_is); (case kc_NoWords => k_is); (case km_NoWords => k_is)
    (case kz_NoWords => k_is); (case kx_NoWords => k_exc); (case kk_LastSheet => k_is); (case kg_LastSheet => k_is)
    (case kj_LastSheet => k_is); (case kc_LastSheet => k_is); (case km_LastSheet => k_is); (case kz_LastSheet => k_is)
    (case kx_LastSheet => k_exc); (case kk_Busy => k_is); (case kg_Busy => k_is); (case kj_Busy => k_is)
    (case kc_Busy => k_is); (case km_Busy => k_is); (case kz_Busy => k_is); (case kx_Busy => k_exc)
    (case kk_TooManyEdits => k_is); (case kg_TooManyEdits => k_is); (case kj_TooManyEdits => k_is); (case kc_TooManyEdits => k_is)
    (case km_TooManyEdits => k_is); (case kz_TooManyEdits => k_is); (case kx_TooManyEdits => k_exc); (case kk_NothingToUndo => k_is)
    (case kg_NothingToUndo => k_is); (case kj_NothingToUndo => k_is); (case kc_NothingToUndo => k_is); (case km_NothingToUndo => k_is)
    (case kz_NothingToUndo => k_is); (case kx_NothingToUndo => k_exc); (case kk_BadBatch => k_is); (case kg_BadBatch => k_is)
    (case kj_BadBatch => k_is); (case kc_BadBatch => k_is); (case km_BadBatch => k_is); (case kz_BadBatch => k_is)
    (case kx_BadBatch => k_exc); (case kk_NoSheet => k_is); (case kg_NoSheet => k_is); (case kj_NoSheet => k_is)
    (case kc_NoSheet => k_is); (case km_NoSheet => k_is); (case kz_NoSheet => k_is); (case ks_NoSheet => k_is)
    (case ki_NoSheet => k_is); (case kf_NoSheet => k_is); (case kn_NoSheet => k_is); (case kl_NoSheet => k_is)
    (case kd_NoSheet => k_is); (case kq_NoSheet => kx_is); (case ko_NoSheet => kx_is); (case kk_NoPlace => k_is)
    (case kg_NoPlace => k_is); (case kj_NoPlace => k_is); (case kc_NoPlace => k_is); (case km_NoPlace => k_is)
    (case kz_NoPlace => k_is); (case ks_NoPlace => k_is); (case ki_NoPlace => k_is); (case kf_NoPlace => k_is)
    (case kn_NoPlace => k_is); (case kl_NoPlace => k_is); (case kd_NoPlace => k_is); (case kq_NoPlace => kx_is)
    (case ko_NoPlace => kx_is); (case kk_NoIndex => k_is); (case kg_NoIndex => k_is); (case kj_NoIndex => k_is)
    (case kc_NoIndex => k_is); (case km_NoIndex => k_is); (case kz_NoIndex => k_is); (case ks_NoIndex => k_is)
    (case ki_NoIndex => k_is); (case kf_NoIndex => k_is); (case kn_NoIndex => k_is); (case kl_NoIndex => k_is)
    (case kd_NoIndex => k_is); (case kq_NoIndex => kx_is); (case ko_NoIndex => kx_is); (case kk_NoVersion => k_is)
    (case kg_NoVersion => k_is); (case kj_NoVersion => k_is); (case kc_NoVersion => k_is); (case km_NoVersion => k_is)
    (case kz_NoVersion => k_is); (case ks_NoVersion => k_is); (case ki_NoVersion => k_is); (case kf_NoVersion => k_is)
    (case kn_NoVersion => k_is); (case kl_NoVersion => k_is); (case kd_NoVersion => k_is); (case kq_NoVersion => kx_is)
    (case ko_NoVersion => kx_is); (case kp_BadNumber_BadBatch => k_is); (case kp_BadNumber_BadForce => k_is); (case kp_BadNumber_BadLetter => k_is)
    (case kp_BadNumber_BadOrder => k_is); (case kp_BadNumber_BadSheet => k_is); (case kp_BadNumber_BadSheets => k_is); (case kp_BadNumber_BadText => k_is)
    (case kp_BadNumber_BadWord => k_is); (case kp_BadNumber_Busy => k_is); (case kp_BadNumber_LastSheet => k_is); (case kp_BadNumber_NoIndex => k_is)
    (case kp_BadNumber_NoPlace => k_is); (case kp_BadNumber_NoSheet => k_is); (case kp_BadNumber_NoVersion => k_is); (case kp_BadNumber_NoWords => k_is)
    (case kp_BadNumber_NothingToUndo => k_is); (case kp_BadNumber_PadError => k_is); (case kp_BadNumber_Rejected => k_is); (case kp_BadNumber_TooLong => k_is)
    (case kp_BadNumber_TooManyEdits => k_is); (case kp_BadNumber_TooStrong => k_is); (case kp_BadOrder_BadBatch => k_is); (case kp_BadOrder_BadForce => k_is)
    (case kp_BadOrder_BadLetter => k_is); (case kp_BadOrder_BadNumber => k_is); (case kp_BadOrder_BadSheet => k_is); (case kp_BadOrder_BadSheets => k_is)
    (case kp_BadOrder_BadText => k_is); (case kp_BadOrder_BadWord => k_is); (case kp_BadOrder_Busy => k_is); (case kp_BadOrder_LastSheet => k_is)
    (case kp_BadOrder_NoIndex => k_is); (case kp_BadOrder_NoPlace => k_is); (case kp_BadOrder_NoSheet => k_is); (case kp_BadOrder_NoVersion => k_is)
    (case kp_BadOrder_NoWords => k_is); (case kp_BadOrder_NothingToUndo => k_is); (case kp_BadOrder_PadError => k_is); (case kp_BadOrder_Rejected => k_is)
    (case kp_BadOrder_TooLong => k_is); (case kp_BadOrder_TooManyEdits => k_is); (case kp_BadOrder_TooStrong => k_is); (case kp_BadWord_BadBatch => k_is)
    (case kp_BadWord_BadForce => k_is); (case kp_BadWord_BadLetter => k_is); (case kp_BadWord_BadNumber => k_is); (case kp_BadWord_BadOrder => k_is)
    (case kp_BadWord_BadSheet => k_is); (case kp_BadWord_BadSheets => k_is); (case kp_BadWord_BadText => k_is); (case kp_BadWord_Busy => k_is)
    (case kp_BadWord_LastSheet => k_is); (case kp_BadWord_NoIndex => k_is); (case kp_BadWord_NoPlace => k_is); (case kp_BadWord_NoSheet => k_is)
    (case kp_BadWord_NoVersion => k_is); (case kp_BadWord_NoWords => k_is); (case kp_BadWord_NothingToUndo => k_is); (case kp_BadWord_PadError => k_is)
    (case kp_BadWord_Rejected => k_is); (case kp_BadWord_TooLong => k_is); (case kp_BadWord_TooManyEdits => k_is); (case kp_BadWord_TooStrong => k_is)
    (case kp_TooLong_BadBatch => k_is); (case kp_TooLong_BadForce => k_is); (case kp_TooLong_BadLetter => k_is); (case kp_TooLong_BadNumber => k_is)
    (case kp_TooLong_BadOrder => k_is); (case kp_TooLong_BadSheet => k_is); (case kp_TooLong_BadSheets => k_is); (case kp_TooLong_BadText => k_is)
    (case kp_TooLong_BadWord => k_is); (case kp_TooLong_Busy => k_is); (case kp_TooLong_LastSheet => k_is); (case kp_TooLong_NoIndex => k_is)
    (case kp_TooLong_NoPlace => k_is); (case kp_TooLong_NoSheet => k_is); (case kp_TooLong_NoVersion => k_is); (case kp_TooLong_NoWords => k_is)
    (case kp_TooLong_NothingToUndo => k_is); (case kp_TooLong_PadError => k_is); (case kp_TooLong_Rejected => k_is); (case kp_TooLong_TooManyEdits => k_is)
    (case kp_TooLong_TooStrong => k_is); (case kp_BadSheet_BadBatch => k_is); (case kp_BadSheet_BadForce => k_is); (case kp_BadSheet_BadLetter => k_is)
    (case kp_BadSheet_BadNumber => k_is); (case kp_BadSheet_BadOrder => k_is); (case kp_BadSheet_BadSheets => k_is); (case kp_BadSheet_BadText => k_is)
    (case kp_BadSheet_BadWord => k_is); (case kp_BadSheet_Busy => k_is); (case kp_BadSheet_LastSheet => k_is); (case kp_BadSheet_NoIndex => k_is)
    (case kp_BadSheet_NoPlace => k_is); (case kp_BadSheet_NoSheet => k_is); (case kp_BadSheet_NoVersion => k_is); (case kp_BadSheet_NoWords => k_is)
    (case kp_BadSheet_NothingToUndo => k_is); (case kp_BadSheet_PadError => k_is); (case kp_BadSheet_Rejected => k_is); (case kp_BadSheet_TooLong => k_is)
    (case kp_BadSheet_TooManyEdits => k_is); (case kp_BadSheet_TooStrong => k_is); (case kp_BadSheets_BadBatch => k_is); (case kp_BadSheets_BadForce => k_is)
    (case kp_BadSheets_BadLetter => k_is); (case kp_BadSheets_BadNumber => k_is); (case kp_BadSheets_BadOrder => k_is); (case kp_BadSheets_BadSheet => k_is)
    (case kp_BadSheets_BadText => k_is); (case kp_BadSheets_BadWord => k_is); (case kp_BadSheets_Busy => k_is); (case kp_BadSheets_LastSheet => k_is)
    (case kp_BadSheets_NoIndex => k_is); (case kp_BadSheets_NoPlace => k_is); (case kp_BadSheets_NoSheet => k_is); (case kp_BadSheets_NoVersion => k_is)
    (case kp_BadSheets_NoWords => k_is); (case kp_BadSheets_NothingToUndo => k_is); (case kp_BadSheets_PadError => k_is); (case kp_BadSheets_Rejected => k_is)
    (case kp_BadSheets_TooLong => k_is); (case kp_BadSheets_TooManyEdits => k_is); (case kp_BadSheets_TooStrong => k_is); (case kp_BadLetter_BadBatch => k_is)
    (case kp_BadLetter_BadForce => k_is); (case kp_BadLetter_BadNumber => k_is); (case kp_BadLetter_BadOrder => k_is); (case kp_BadLetter_BadSheet => k_is)
    (case kp_BadLetter_BadSheets => k_is); (case kp_BadLetter_BadText => k_is); (case kp_BadLetter_BadWord => k_is); (case kp_BadLetter_Busy => k_is)
    (case kp_BadLetter_LastSheet => k_is); (case kp_BadLetter_NoIndex => k_is); (case kp_BadLetter_NoPlace => k_is); (case kp_BadLetter_NoSheet => k_is)
    (case kp_BadLetter_NoVersion => k_is); (case kp_BadLetter_NoWords => k_is); (case kp_BadLetter_NothingToUndo => k_is); (case kp_BadLetter_PadError => k_is)
    (case kp_BadLetter_Rejected => k_is); (case kp_BadLetter_TooLong => k_is); (case kp_BadLetter_TooManyEdits => k_is); (case kp_BadLetter_TooStrong => k_is)
    (case kp_BadForce_BadBatch => k_is); (case kp_BadForce_BadLetter => k_is); (case kp_BadForce_BadNumber => k_is); (case kp_BadForce_BadOrder => k_is)
    (case kp_BadForce_BadSheet => k_is); (case kp_BadForce_BadSheets => k_is); (case kp_BadForce_BadText => k_is); (case kp_BadForce_BadWord => k_is)
    (case kp_BadForce_Busy => k_is); (case kp_BadForce_LastSheet => k_is); (case kp_BadForce_NoIndex => k_is); (case kp_BadForce_NoPlace => k_is)
    (case kp_BadForce_NoSheet => k_is); (case kp_BadForce_NoVersion => k_is); (case kp_BadForce_NoWords => k_is); (case kp_BadForce_NothingToUndo => k_is)
    (case kp_BadForce_PadError => k_is); (case kp_BadForce_Rejected => k_is); (case kp_BadForce_TooLong => k_is); (case kp_BadForce_TooManyEdits => k_is)
    (case kp_BadForce_TooStrong => k_is); (case kp_TooStrong_BadBatch => k_is); (case kp_TooStrong_BadForce => k_is); (case kp_TooStrong_BadLetter => k_is)
    (case kp_TooStrong_BadNumber => k_is); (case kp_TooStrong_BadOrder => k_is); (case kp_TooStrong_BadSheet => k_is); (case kp_TooStrong_BadSheets => k_is)
    (case kp_TooStrong_BadText => k_is); (case kp_TooStrong_BadWord => k_is); (case kp_TooStrong_Busy => k_is); (case kp_TooStrong_LastSheet => k_is)
    (case kp_TooStrong_NoIndex => k_is); (case kp_TooStrong_NoPlace => k_is); (case kp_TooStrong_NoSheet => k_is); (case kp_TooStrong_NoVersion => k_is)
    (case kp_TooStrong_NoWords => k_is); (case kp_TooStrong_NothingToUndo => k_is); (case kp_TooStrong_PadError => k_is); (case kp_TooStrong_Rejected => k_is)
    (case kp_TooStrong_TooLong => k_is); (case kp_TooStrong_TooManyEdits => k_is); (case kp_Rejected_BadBatch => k_is); (case kp_Rejected_BadForce => k_is)
    (case kp_Rejected_BadLetter => k_is); (case kp_Rejected_BadNumber => k_is); (case kp_Rejected_BadOrder => k_is); (case kp_Rejected_BadSheet => k_is)
    (case kp_Rejected_BadSheets => k_is); (case kp_Rejected_BadText => k_is); (case kp_Rejected_BadWord => k_is); (case kp_Rejected_Busy => k_is)
    (case kp_Rejected_LastSheet => k_is); (case kp_Rejected_NoIndex => k_is); (case kp_Rejected_NoPlace => k_is); (case kp_Rejected_NoSheet => k_is)
    (case kp_Rejected_NoVersion => k_is); (case kp_Rejected_NoWords => k_is); (case kp_Rejected_NothingToUndo => k_is); (case kp_Rejected_PadError => k_is)
    (case kp_Rejected_TooLong => k_is); (case kp_Rejected_TooManyEdits => k_is); (case kp_Rejected_TooStrong => k_is); (case kp_BadText_BadBatch => k_is)
    (case kp_BadText_BadForce => k_is); (case kp_BadText_BadLetter => k_is); (case kp_BadText_BadNumber => k_is); (case kp_BadText_BadOrder => k_is)
    (case kp_BadText_BadSheet => k_is); (case kp_BadText_BadSheets => k_is); (case kp_BadText_BadWord => k_is); (case kp_BadText_Busy => k_is)
    (case kp_BadText_LastSheet => k_is); (case kp_BadText_NoIndex => k_is); (case kp_BadText_NoPlace => k_is); (case kp_BadText_NoSheet => k_is)
    (case kp_BadText_NoVersion => k_is); (case kp_BadText_NoWords => k_is); (case kp_BadText_NothingToUndo => k_is); (case kp_BadText_PadError => k_is)
    (case kp_BadText_Rejected => k_is); (case kp_BadText_TooLong => k_is); (case kp_BadText_TooManyEdits => k_is); (case kp_BadText_TooStrong => k_is)
    (case kp_NoWords_BadBatch => k_is); (case kp_NoWords_BadForce => k_is); (case kp_NoWords_BadLetter => k_is); (case kp_NoWords_BadNumber => k_is)
    (case kp_NoWords_BadOrder => k_is); (case kp_NoWords_BadSheet => k_is); (case kp_NoWords_BadSheets => k_is); (case kp_NoWords_BadText => k_is)
    (case kp_NoWords_BadWord => k_is); (case kp_NoWords_Busy => k_is); (case kp_NoWords_LastSheet => k_is); (case kp_NoWords_NoIndex => k_is)
    (case kp_NoWords_NoPlace => k_is); (case kp_NoWords_NoSheet => k_is); (case kp_NoWords_NoVersion => k_is); (case kp_NoWords_NothingToUndo => k_is)
    (case kp_NoWords_PadError => k_is); (case kp_NoWords_Rejected => k_is); (case kp_NoWords_TooLong => k_is); (case kp_NoWords_TooManyEdits => k_is)
    (case kp_NoWords_TooStrong => k_is); (case kp_LastSheet_BadBatch => k_is); (case kp_LastSheet_BadForce => k_is); (case kp_LastSheet_BadLetter => k_is)
    (case kp_LastSheet_BadNumber => k_is); (case kp_LastSheet_BadOrder => k_is); (case kp_LastSheet_BadSheet => k_is); (case kp_LastSheet_BadSheets => k_is)
    (case kp_LastSheet_BadText => k_is); (case kp_LastSheet_BadWord => k_is); (case kp_LastSheet_Busy => k_is); (case kp_LastSheet_NoIndex => k_is)
    (case kp_LastSheet_NoPlace => k_is); (case kp_LastSheet_NoSheet => k_is); (case kp_LastSheet_NoVersion => k_is); (case kp_LastSheet_NoWords => k_is)
    (case kp_LastSheet_NothingToUndo => k_is); (case kp_LastSheet_PadError => k_is); (case kp_LastSheet_Rejected => k_is); (case kp_LastSheet_TooLong => k_is)
    (case kp_LastSheet_TooManyEdits => k_is); (case kp_LastSheet_TooStrong => k_is); (case kp_Busy_BadBatch => k_is); (case kp_Busy_BadForce => k_is)
    (case kp_Busy_BadLetter => k_is); (case kp_Busy_BadNumber => k_is); (case kp_Busy_BadOrder => k_is); (case kp_Busy_BadSheet => k_is)
    (case kp_Busy_BadSheets => k_is); (case kp_Busy_BadText => k_is); (case kp_Busy_BadWord => k_is); (case kp_Busy_LastSheet => k_is)
    (case kp_Busy_NoIndex => k_is); (case kp_Busy_NoPlace => k_is); (case kp_Busy_NoSheet => k_is); (case kp_Busy_NoVersion => k_is)
    (case kp_Busy_NoWords => k_is); (case kp_Busy_NothingToUndo => k_is); (case kp_Busy_PadError => k_is); (case kp_Busy_Rejected => k_is)
    (case kp_Busy_TooLong => k_is); (case kp_Busy_TooManyEdits => k_is); (case kp_Busy_TooStrong => k_is); (case kp_TooManyEdits_BadBatch => k_is)
    (case kp_TooManyEdits_BadForce => k_is); (case kp_TooManyEdits_BadLetter => k_is); (case kp_TooManyEdits_BadNumber => k_is); (case kp_TooManyEdits_BadOrder => k_is)
    (case kp_TooManyEdits_BadSheet => k_is); (case kp_TooManyEdits_BadSheets => k_is); (case kp_TooManyEdits_BadText => k_is); (case kp_TooManyEdits_BadWord => k_is)
    (case kp_TooManyEdits_Busy => k_is); (case kp_TooManyEdits_LastSheet => k_is); (case kp_TooManyEdits_NoIndex => k_is); (case kp_TooManyEdits_NoPlace => k_is)
    (case kp_TooManyEdits_NoSheet => k_is); (case kp_TooManyEdits_NoVersion => k_is); (case kp_TooManyEdits_NoWords => k_is); (case kp_TooManyEdits_NothingToUndo => k_is)
    (case kp_TooManyEdits_PadError => k_is); (case kp_TooManyEdits_Rejected => k_is); (case kp_TooManyEdits_TooLong => k_is); (case kp_TooManyEdits_TooStrong => k_is)
    (case kp_NothingToUndo_BadBatch => k_is); (case kp_NothingToUndo_BadForce => k_is); (case kp_NothingToUndo_BadLetter => k_is); (case kp_NothingToUndo_BadNumber => k_is)
    (case kp_NothingToUndo_BadOrder => k_is); (case kp_NothingToUndo_BadSheet => k_is); (case kp_NothingToUndo_BadSheets => k_is); (case kp_NothingToUndo_BadText => k_is)
    (case kp_NothingToUndo_BadWord => k_is); (case kp_NothingToUndo_Busy => k_is); (case kp_NothingToUndo_LastSheet => k_is); (case kp_NothingToUndo_NoIndex => k_is)
    (case kp_NothingToUndo_NoPlace => k_is); (case kp_NothingToUndo_NoSheet => k_is); (case kp_NothingToUndo_NoVersion => k_is); (case kp_NothingToUndo_NoWords => k_is)
    (case kp_NothingToUndo_PadError => k_is); (case kp_NothingToUndo_Rejected => k_is); (case kp_NothingToUndo_TooLong => k_is); (case kp_NothingToUndo_TooManyEdits => k_is)
    (case kp_NothingToUndo_TooStrong => k_is); (case kp_BadBatch_BadForce => k_is); (case kp_BadBatch_BadLetter => k_is); (case kp_BadBatch_BadNumber => k_is)
    (case kp_BadBatch_BadOrder => k_is); (case kp_BadBatch_BadSheet => k_is); (case kp_BadBatch_BadSheets => k_is); (case kp_BadBatch_BadText => k_is)
    (case kp_BadBatch_BadWord => k_is); (case kp_BadBatch_Busy => k_is); (case kp_BadBatch_LastSheet => k_is); (case kp_BadBatch_NoIndex => k_is)
    (case kp_BadBatch_NoPlace => k_is); (case kp_BadBatch_NoSheet => k_is); (case kp_BadBatch_NoVersion => k_is); (case kp_BadBatch_NoWords => k_is)
    (case kp_BadBatch_NothingToUndo => k_is); (case kp_BadBatch_PadError => k_is); (case kp_BadBatch_Rejected => k_is); (case kp_BadBatch_TooLong => k_is)
    (case kp_BadBatch_TooManyEdits => k_is); (case kp_BadBatch_TooStrong => k_is); (case kp_NoSheet_BadBatch => k_is); (case kp_NoSheet_BadForce => k_is)
    (case kp_NoSheet_BadLetter => k_is); (case kp_NoSheet_BadNumber => k_is); (case kp_NoSheet_BadOrder => k_is); (case kp_NoSheet_BadSheet => k_is)
    (case kp_NoSheet_BadSheets => k_is); (case kp_NoSheet_BadText => k_is); (case kp_NoSheet_BadWord => k_is); (case kp_NoSheet_Busy => k_is)
    (case kp_NoSheet_LastSheet => k_is); (case kp_NoSheet_NoIndex => k_is); (case kp_NoSheet_NoPlace => k_is); (case kp_NoSheet_NoVersion => k_is)
    (case kp_NoSheet_NoWords => k_is); (case kp_NoSheet_NothingToUndo => k_is); (case kp_NoSheet_PadError => k_is); (case kp_NoSheet_Rejected => k_is)
    (case kp_NoSheet_TooLong => k_is); (case kp_NoSheet_TooManyEdits => k_is); (case kp_NoSheet_TooStrong => k_is); (case kp_NoPlace_BadBatch => k_is)
    (case kp_NoPlace_BadForce => k_is); (case kp_NoPlace_BadLetter => k_is); (case kp_NoPlace_BadNumber => k_is); (case kp_NoPlace_BadOrder => k_is)
    (case kp_NoPlace_BadSheet => k_is); (case kp_NoPlace_BadSheets => k_is); (case kp_NoPlace_BadText => k_is); (case kp_NoPlace_BadWord => k_is)
    (case kp_NoPlace_Busy => k_is); (case kp_NoPlace_LastSheet => k_is); (case kp_NoPlace_NoIndex => k_is); (case kp_NoPlace_NoSheet => k_is)
    (case kp_NoPlace_NoVersion => k_is); (case kp_NoPlace_NoWords => k_is); (case kp_NoPlace_NothingToUndo => k_is); (case kp_NoPlace_PadError => k_is)
    (case kp_NoPlace_Rejected => k_is); (case kp_NoPlace_TooLong => k_is); (case kp_NoPlace_TooManyEdits => k_is); (case kp_NoPlace_TooStrong => k_is)
    (case kp_NoIndex_BadBatch => k_is); (case kp_NoIndex_BadForce => k_is); (case kp_NoIndex_BadLetter => k_is); (case kp_NoIndex_BadNumber => k_is)
    (case kp_NoIndex_BadOrder => k_is); (case kp_NoIndex_BadSheet => k_is); (case kp_NoIndex_BadSheets => k_is); (case kp_NoIndex_BadText => k_is)
    (case kp_NoIndex_BadWord => k_is); (case kp_NoIndex_Busy => k_is); (case kp_NoIndex_LastSheet => k_is); (case kp_NoIndex_NoPlace => k_is)
    (case kp_NoIndex_NoSheet => k_is); (case kp_NoIndex_NoVersion => k_is); (case kp_NoIndex_NoWords => k_is); (case kp_NoIndex_NothingToUndo => k_is)
    (case kp_NoIndex_PadError => k_is); (case kp_NoIndex_Rejected => k_is); (case kp_NoIndex_TooLong => k_is); (case kp_NoIndex_TooManyEdits => k_is)
    (case kp_NoIndex_TooStrong => k_is); (case kp_NoVersion_BadBatch => k_is); (case kp_NoVersion_BadForce => k_is); (case kp_NoVersion_BadLetter => k_is)
    (case kp_NoVersion_BadNumber => k_is); (case kp_NoVersion_BadOrder => k_is); (case kp_NoVersion_BadSheet => k_is); (case kp_NoVersion_BadSheets => k_is)
    (case kp_NoVersion_BadText => k_is); (case kp_NoVersion_BadWord => k_is); (case kp_NoVersion_Busy => k_is); (case kp_NoVersion_LastSheet => k_is)
    (case kp_NoVersion_NoIndex => k_is); (case kp_NoVersion_NoPlace => k_is); (case kp_NoVersion_NoSheet => k_is); (case kp_NoVersion_NoWords => k_is)
    (case kp_NoVersion_NothingToUndo => k_is); (case kp_NoVersion_PadError => k_is); (case kp_NoVersion_Rejected => k_is); (case kp_NoVersion_TooLong => k_is)
    (case kp_NoVersion_TooManyEdits => k_is); (case kp_NoVersion_TooStrong => k_is); (case kp_BadNumber_LookupError => k_is); (case kp_BadNumber_ValueError => k_is)
    (case kp_BadOrder_LookupError => k_is); (case kp_BadOrder_ValueError => k_is); (case kp_BadWord_LookupError => k_is); (case kp_BadWord_ValueError => k_is)
    (case kp_TooLong_LookupError => k_is); (case kp_TooLong_ValueError => k_is); (case kp_BadSheet_LookupError => k_is); (case kp_BadSheet_ValueError => k_is)
    (case kp_BadSheets_LookupError => k_is); (case kp_BadSheets_ValueError => k_is); (case kp_BadLetter_LookupError => k_is); (case kp_BadLetter_ValueError => k_is)
    (case kp_BadForce_LookupError => k_is); (case kp_BadForce_ValueError => k_is); (case kp_TooStrong_LookupError => k_is); (case kp_TooStrong_ValueError => k_is)
    (case kp_Rejected_LookupError => k_is); (case kp_Rejected_ValueError => k_is); (case kp_BadText_LookupError => k_is); (case kp_BadText_ValueError => k_is)
    (case kp_NoWords_LookupError => k_is); (case kp_NoWords_ValueError => k_is); (case kp_LastSheet_LookupError => k_is); (case kp_LastSheet_ValueError => k_is)
    (case kp_Busy_LookupError => k_is); (case kp_Busy_ValueError => k_is); (case kp_TooManyEdits_LookupError => k_is); (case kp_TooManyEdits_ValueError => k_is)
    (case kp_NothingToUndo_LookupError => k_is); (case kp_NothingToUndo_ValueError => k_is); (case kp_BadBatch_LookupError => k_is); (case kp_BadBatch_ValueError => k_is)
    (case kp_NoSheet_LookupError => k_is); (case kp_NoSheet_ValueError => k_is); (case kp_NoPlace_LookupError => k_is); (case kp_NoPlace_ValueError => k_is)
    (case kp_NoIndex_LookupError => k_is); (case kp_NoIndex_ValueError => k_is); (case kp_NoVersion_LookupError => k_is); (case kp_NoVersion_ValueError => k_is)
    (case kS => k_is); (case kT => k_is)

