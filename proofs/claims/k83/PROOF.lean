import PyProof.Rows.All
import Wide.All
import OpenK.AllK
import Wide.FinOn
import HandS.ForMost
import HandS.Exc
import HandS.ExcOwn
import HandS.ExcIs
import HandS.IsInst
import HandS.Lambda
import HandS.EndTab
import HandS.SortKw
import HandS.Defaults
import HandS.TupLe
import HandS.WordsExc
import HandS.Wide
import KE.SortKeyHeap
import KE.KDictKeyed
import KE.KDictSum
import KE.GoesNew
import PyProof.ListStr
import HandS.Walk
import HandS.Steps
import HandS.Style
import KE.GoesEnum
import KE.GoesMore
import PyProof.StrBlock2
import PyProof.CallFns
import HandS.StrMore
import HandS.Set
import HandS.SetFor
import KE.SortData
import HandS.SetKeys
import HandS.TupLen
import KE.KeyNested
import HandS.TupSets
import KE.KUnpackStar
import HandS.Conv
import PySem.Challenge.RW_swinglogic_k83_whole_formulas_as_texts
import HandS.DictComp
import HandS.TupAny
import HandS.RaiseMore
import HandS.ExcInit
import HandS.HeadHook3
import HandS.ExcField
set_option Elab.async false
set_option linter.all false
set_option maxRecDepth 100000
set_option maxHeartbeats 4000000
namespace SWL
open PySem PySem.Spec PyProof.Rows L2
/-! repr of data, list of a text -/
/-- what repr asks of data: the around has no guard in hand -/
def askRepr (K : PySem.W.Frag) : List V → Hp → VK → Prop := fun xs H Q =>
  ∃ (a : Addr) (d : PyData), xs = [.ref a] ∧ Dp K H (.ref a) d ∧ d.showable = true ∧ d.hasDict = false ∧ d.depth ≤ 50 ∧ d.shown.length ≤ sizeLine ∧ Q (.str d.shown) H
section
variable {X : Cx}
theorem cr_repr (gd : X.A.guards = some []) (hu : X.A.units + 64 < cLine) : CallR X (.builtin "repr") (askRepr X.K) := by
  intro pins s σ H xs us Q I rel q
  obtain ⟨a, d, rfl, hd, hs, hn, hdep, hlen, q⟩ := q
  obtain ⟨u, rfl, ru⟩ := vals1 rel
  obtain ⟨as, rd⟩ := Dp.reads I d _ _ hd ru
  cases ru
  refine repr_of_reads' rd hs (PyData.noDict_hsm hn) gd (by omega) (fun _ _ e => e) (fun h' u' tk hk => ?_) hlen
  exact ⟨.str d.shown, H, I.kept hk, ⟨u', rfl⟩, q⟩
def signsV (z : Str) : List V := z.cps.toList.map fun c => V.str ⟨#[c]⟩
theorem signs_vals (z : Str) : ∀ (l : List Nat) (vs : List Value), vs.length = l.length → (∀ (i : Nat) (v : Value), vs[i]? = some v → ∃ c t, l[i]? = some c ∧ v = .str ⟨#[c]⟩ t) → Vals (l.map fun c => V.str ⟨#[c]⟩) vs
  | [], [], _, _ => .nil
  | [], _ :: _, h, _ => by simp at h
  | _ :: _, [], h, _ => by simp at h
  | c :: l, v :: vs, h, hv => by
    obtain ⟨c', t, h1, h2⟩ := hv 0 v rfl
    have e : c = c' := Option.some.inj h1
    subst e
    exact .cons ⟨t, h2⟩ (signs_vals z l vs (by simpa using h) fun i w hw => hv (i + 1) w hw)
theorem cr_listStr (hc : X.calm = true) : CallR X (.type "list") (fun xs H Q => ∃ z, xs = [.str z] ∧ z.length ≤ sizeLine ∧ ∀ p, H p = none → Q (.ref p) (upd H p (.lst (signsV z)))) := by
  intro pins s σ H xs us Q I rel q
  obtain ⟨z, rfl, hz, q⟩ := q
  obtain ⟨u, rfl, t, rfl⟩ := vals1 rel
  refine call_list_str (I.ok.hd hc) z t (fun h' tk acc' c' hk hget hit => ?_) hz
  have hlen : acc'.toList.length = z.cps.toList.length := by
    rw [Array.length_toList, Array.length_toList]
    exact hit.1
  have hv : Vals (signsV z) acc'.toList := by
    refine signs_vals z _ _ hlen fun i v hv => ?_
    obtain ⟨c, t', h1, h2⟩ := hit.2 i v (by rw [← Array.getElem?_toList]; exact hv)
    exact ⟨c, t', by rw [Array.getElem?_toList]; exact h1, h2⟩
  refine ⟨.ref s.heap.objs.size, _, I.laid (t' := tk) hk (Nat.le_refl _) (show ObjOk X.prog X.w _ h' _ (.lst (signsV z)) from ⟨?_, acc'.toList, c', hv, ?_⟩), rfl, q _ (I.hok.fresh (Nat.le_refl _))⟩
  · unfold signsV
    rw [List.length_map, Array.length_toList]
    exact hz
  · rw [Array.toArray_toList]
    exact hget
end
end SWL
set_option Elab.async false
set_option linter.all false
set_option maxRecDepth 100000
set_option maxHeartbeats 4000000
namespace SWL
open PySem PySem.Spec PyProof.Rows L2
/-! zip of two texts -/
/-- the pairs of two texts' signs, a new tuple each -/
def PairsS (x y : Str) : It :=
  ⟨fun i _ => i < min x.cps.size y.cps.size,
    fun i H v H' => ∃ (T : Addr) (c d : Nat), v = .ref T ∧ H T = none ∧ H' = upd H T (.tup [.str ⟨#[c]⟩, .str ⟨#[d]⟩]) ∧ x.cps[i]? = some c ∧ y.cps[i]? = some d,
    fun i _ => i = min x.cps.size y.cps.size⟩
theorem turnZipS {P : Program} {w : World} {K : PySem.W.Frag} {elts : List Expr} {kk : Nat} {tp : Pos} {N : Addr} (x y : Str) (t u : Tok) :
    Turn P w K (.Tuple elts kk tp) (PairsS x y) [N + 4, N + 2, N + 3, N, N + 1] (N + 4)
      (fun i h => IsZip h (N + 4) (N + 2) (N + 3) .none ∧ IsTupOf2 h (N + 2) (.ref N) (.ref (N + 1)) ∧ (∃ a b, IsTupOf2 h (N + 3) a b) ∧ h.IsStrIter N (strIterType x) x t i ∧ h.IsStrIter (N + 1) (strIterType y) y u i) where
  mem := by simp
  obj := fun i h st b hb => by
    obtain ⟨z1, z2, ⟨_, _, z3⟩, ⟨o4, z4, _, d4⟩, ⟨o5, z5, _, d5⟩⟩ := st
    rcases (by simpa using hb : b = N + 4 ∨ b = N + 2 ∨ b = N + 3 ∨ b = N ∨ b = N + 1) with e | e | e | e | e
    · exact ⟨_, by rw [e]; exact z1, fun v q => by cases q⟩
    · exact ⟨_, by rw [e]; exact z2, fun v q => by cases q⟩
    · exact ⟨_, by rw [e]; exact z3, fun v q => by cases q⟩
    · exact ⟨o4, by rw [e]; exact z4, fun v q => by rw [d4] at q; cases q⟩
    · exact ⟨o5, by rw [e]; exact z5, fun v q => by rw [d5] at q; cases q⟩
  keep := fun i h h' st hk => by
    obtain ⟨z1, z2, ⟨a, b, z3⟩, z4, z5⟩ := st
    exact ⟨hk _ (by simp) _ z1, hk _ (by simp) _ z2, ⟨a, b, hk _ (by simp) _ z3⟩, let ⟨o, e, r⟩ := z4; ⟨o, hk _ (by simp) o e, r⟩, let ⟨o, e, r⟩ := z5; ⟨o, hk _ (by simp) o e, r⟩⟩
  item := by
    intro X hP hw hK hc i pins s σ H E I hf st hg
    subst hP hw hK
    have hh : X.A.handled = none := I.ok.hd hc
    have D1 := Draws.text (prog := X.prog) (w := X.w) (A := X.A.in1) hh N x t
    have D2 := Draws.text (prog := X.prog) (w := X.w) (A := X.A.in1) hh (N + 1) y u
    have S : ZipSep2 (N + 4) (N + 2) (N + 3) N (N + 1) [N] [N + 1] := zip_sep2 (fp1 := []) (fp2 := []) (fun _ h => nomatch h) (fun _ h => nomatch h)
    have G := GoesN.zip2 (elts := elts) (x1 := kk) (pos := tp) S D1 D2
    refine G.goes i s _ E hg st fun v h' tk hY st' hk _ => ?_
    obtain ⟨T, a, b, rfl, hT, ⟨c, t1, hc1, rfl⟩, ⟨d, t2, hd1, rfl⟩, hTup⟩ := hY
    have fr : H T = none := I.hok.fresh hT
    refine ⟨.ref T, upd H T (.tup [.str ⟨#[c]⟩, .str ⟨#[d]⟩]), I.turnedNew (t' := tk) (ch := [N + 4, N + 3, N, N + 1]) hk (fun b hb => hf b ?_) hT ?_, rfl, ⟨T, c, d, rfl, fr, rfl, hc1, hd1⟩, st', fun b hb => ?_⟩
    · rcases (by simpa using hb : b = N + 4 ∨ b = N + 3 ∨ b = N ∨ b = N + 1) with e | e | e | e <;> simp [e]
    · exact ⟨by show 2 ≤ sizeLine; decide, _, .cons ⟨_, rfl⟩ (.cons ⟨_, rfl⟩ .nil), hTup⟩
    · have hlt : b < s.heap.objs.size := by
        obtain ⟨z1, z2, ⟨_, _, z3⟩, ⟨o4, z4, _⟩, ⟨o5, z5, _⟩⟩ := st
        rcases (by simpa using hb : b = N + 4 ∨ b = N + 2 ∨ b = N + 3 ∨ b = N ∨ b = N + 1) with e | e | e | e | e
        · rw [e]; exact Heap.lt_size z1
        · rw [e]; exact Heap.lt_size z2
        · rw [e]; exact Heap.lt_size z3
        · rw [e]; exact Heap.lt_size z4
        · rw [e]; exact Heap.lt_size z5
      rw [upd_ne (Nat.ne_of_lt (Nat.lt_of_lt_of_le hlt hT))]
      exact (hf b hb).1
  done := by
    intro X hP hw hK hc i pins s σ H E I hf st hg
    subst hP hw hK
    have hh : X.A.handled = none := I.ok.hd hc
    have D1 := Draws.text (prog := X.prog) (w := X.w) (A := X.A.in1) hh N x t
    have D2 := Draws.text (prog := X.prog) (w := X.w) (A := X.A.in1) hh (N + 1) y u
    have S : ZipSep2 (N + 4) (N + 2) (N + 3) N (N + 1) [N] [N + 1] := zip_sep2 (fp1 := []) (fp2 := []) (fun _ h => nomatch h) (fun _ h => nomatch h)
    have G := GoesN.zip2 (elts := elts) (x1 := kk) (pos := tp) S D1 D2
    have hi : i = min x.cps.size y.cps.size := hg
    rw [hi] at st
    refine G.stops s _ E st fun h' tk hk _ => ?_
    refine I.turnedL (t' := tk) (ch := [N + 4, N + 3, N, N + 1]) hk fun b hb => hf b ?_
    rcases (by simpa using hb : b = N + 4 ∨ b = N + 3 ∨ b = N ∨ b = N + 1) with e | e | e | e <;> simp [e]
  self := fun A i s Q E st h => wpAny_pyIter_zip st.1 h
def iZipS (ta : TA) : TI := fun σ H R => ta σ H fun vs H1 => ∃ x y, vs = [.str x, .str y] ∧ R (PairsS x y) H1
theorem pi_zipS {X : Cx} {e e2 : Expr} {ta : TA} {p pos tpos : Pos} {elts : List Expr} {kk : Nat} (hg : Gl X "zip") (hm : X.mg "zip" = none) (ha : PA X [e, e2] ta)
    (hs : starEach [e, e2] X.env = (false, eval e X.env) :: starEach [e2] X.env := by rfl) (hpl : (backTo pos (starEach [e2] X.env)).any (·.1) = false := by rfl) :
    PI X (.Tuple elts kk tpos) (.Call (.Name "zip" p) [e, e2] [] pos) (iZipS ta) := by
  refine ⟨fun pins s σ H R I h => Call_ (ld_blt I hg hm boot_zip (callWith_type1 (thn (ha.run pos pins s σ H _ I h) fun us s1 q => ?_) hs hpl))⟩
  obtain ⟨vs, H1, I1, rel, x, y, rfl, q⟩ := q
  obtain ⟨u1, u2, rfl, ⟨t1, rfl⟩, ⟨t2, rfl⟩⟩ := vals2 rel
  refine zip_begins2 (begins_text x t1) (begins_text y t2) trivial trivial fun h' z1 z2 z3 z4 z5 hsz hk => wpAny_pyIter_zip z1 ?_
  refine ⟨_, _, _, _, H1, rfl, I1.kept (t' := s1.toks) hk, turnZipS (N := s1.heap.objs.size) x y t1 t2, ⟨z1, z2, ⟨_, _, z3⟩, ⟨_, z4, rfl, rfl⟩, ⟨_, z5, rfl, rfl⟩⟩, fun b hb => ?_, q⟩
  have hle : s1.heap.objs.size ≤ b := by
    rcases (by simpa using hb : b = s1.heap.objs.size + 4 ∨ b = s1.heap.objs.size + 2 ∨ b = s1.heap.objs.size + 3 ∨ b = s1.heap.objs.size ∨ b = s1.heap.objs.size + 1) with e | e | e | e | e <;> rw [e] <;> first | exact Nat.le_add_right _ _ | exact Nat.le_refl _
  exact I1.fpOk hle (I1.hok.fresh hle)
end SWL
set_option Elab.async false
set_option linter.all false
set_option maxRecDepth 100000
set_option maxHeartbeats 4000000
namespace SWL
open PySem PySem.Spec PyProof.Rows L2
/-! an object that nobody tracked is tracked from now on; data under growth; sorted by data -/
def Grows (H H' : Hp) : Prop := ∀ b o, H b = some o → H' b = some o
theorem Grows.refl (H : Hp) : Grows H H := fun _ _ h => h
theorem Grows.trans {H H1 H2 : Hp} (a : Grows H H1) (b : Grows H1 H2) : Grows H H2 := fun c o h => b c o (a c o h)
theorem Grows.new {H : Hp} {p : Addr} {o : HO} (h : H p = none) : Grows H (upd H p o) := fun b u e => by
  rw [upd_ne (ne_of_none e h)]
  exact e
theorem Grows.rd {H H' : Hp} (g : Grows H H') {a : Addr} {u : HO} (r : Rd H a u) : Rd H' a u := by
  rcases r with r | ⟨o, r⟩
  · exact .inl (g _ _ r)
  · exact .inr ⟨o, g _ _ r⟩
theorem Grows.l {K : PySem.W.Frag} {H H' : Hp} (g : Grows H H') {a : Addr} {xs : List V} (h : SqL K H a xs) : SqL K H' a xs := h.imp g.rd id
theorem Grows.t {K : PySem.W.Frag} {H H' : Hp} (g : Grows H H') {a : Addr} {xs : List V} (h : SqT K H a xs) : SqT K H' a xs := h.imp g.rd id
mutual
theorem Grows.dp {K : PySem.W.Frag} {H H' : Hp} (g : Grows H H') : ∀ (d : PyData) (v : V), Dp K H v d → Dp K H' v d
  | .none, _, h => by cases h; exact .non
  | .bool _, _, h => by cases h; exact .bl _
  | .int _, _, h => by cases h; exact .int _
  | .str _, _, h => by cases h; exact .str _
  | .list ds, _, h => by
    cases h with
    | lst h1 h2 => exact .lst (g.l h1) (Grows.dps g ds _ h2)
  | .tuple ds, _, h => by
    cases h with
    | tup h1 h2 => exact .tup (g.t h1) (Grows.dps g ds _ h2)
  | .dict _, _, h => by cases h
theorem Grows.dps {K : PySem.W.Frag} {H H' : Hp} (g : Grows H H') : ∀ (ds : List PyData) (vs : List V), DpAll K H vs ds → DpAll K H' vs ds
  | [], _, h => by cases h; exact .nil
  | d :: ds, _, h => by
    cases h with
    | cons h1 h2 => exact .cons (Grows.dp g d _ h1) (Grows.dps g ds _ h2)
end
section
variable {X : Cx} {pins : List (Addr × Obj)} {σ : L2.St} {H : Hp} {s : Shared}
theorem track {a : Addr} {o : HO} (I : Inv X pins σ H s) (f : FpOk X pins H a) (h0 : X.s_0.heap.objs.size ≤ a) (new : ObjOk X.prog X.w (upd H a o) s.heap a o) : Inv X pins σ (upd H a o) s := by
  obtain ⟨hn, hL, _, _, hc, hp⟩ := f
  have ne : ∀ b u, H b = some u → b ≠ a := fun b u e => ne_of_none e hn
  refine ⟨I.ok, I.os, I.bare, ⟨I.base.keep, I.base.slot, fun b u e n hx => ?_, I.base.there, fun b xs e => ?_, fun b u xs e => ?_, fun b ps e => ?_⟩, I.loc, I.cell, ?_, fun x c e => ?_, fun p hq => ?_, fun b u e => ?_, I.len⟩
  · rw [upd_ne (Nat.ne_of_lt (Nat.lt_of_lt_of_le (Heap.lt_size e) h0))]
    exact I.base.free b u e n hx
  · have q := I.base.tups b xs e
    rw [upd_ne (ne _ _ q)]
    exact q
  · have q := I.base.frzs b u xs e
    rw [upd_ne (ne _ _ q)]
    exact q
  · obtain ⟨m, q⟩ := I.base.tbls b ps e
    exact ⟨m, by rw [upd_ne (ne _ _ q)]; exact q⟩
  · rw [upd_ne hL.symm]
    exact I.free
  · rw [upd_ne (hc x c e)]
    exact I.freeC x c e
  · obtain ⟨q1, q2, q3⟩ := I.pin p hq
    exact ⟨q1, by rw [upd_ne (hp p hq)]; exact q2, q3⟩
  · by_cases hb : b = a
    · subst hb
      rw [upd_same] at e
      cases e
      exact new
    · rw [upd_ne hb] at e
      refine (I.hok b u e).stay (fun c v _ q => q) (fun c q => ?_) fun c xs q => ?_
      · rw [upd_ne (ne _ _ q)]
        exact q
      · rw [upd_ne (ne _ _ q)]
        exact q
/-- a place that is new to the state s is no frame's -/
theorem noFrame (I : Inv X pins σ H s) {b : Addr} (h : s.heap.objs.size ≤ b) : b ∉ frs X.stack := fun z => by
  rcases List.mem_cons.mp (I.stkSub b z) with e | e
  · have q := I.lt
    rw [← e] at q
    exact Nat.lt_irrefl _ (Nat.lt_of_lt_of_le q h)
  · exact I.nofs h e
theorem each_vals : ∀ {xs : List V} {us : List Value}, PySem.W.EachIs (fun u x => RelV x u) us xs → Vals xs us
  | _, _, .nil => .nil
  | _, _, .cons h t => .cons h (each_vals t)
theorem vals_each : ∀ {xs : List V} {us : List Value}, Vals xs us → PySem.W.EachIs (fun u x => RelV x u) us xs
  | _, _, .nil => .nil
  | _, _, .cons h t => .cons h (vals_each t)
end
/-- sorted(xs): the items read as data by k; what comes is THE sorted list -/
def askSorted (K : PySem.W.Frag) : List V → Hp → VK → Prop := fun xs H Q => ∃ (a : Addr) (items : List V) (k : V → PyData), xs = [.ref a] ∧ SqL K H a items ∧ (∀ x ∈ items, Dp K H x (k x)) ∧
  PySem.W.AllAlike (items.map k) ∧ PySem.W.Sortable (items.map k) ∧ (∀ x ∈ items, (k x).depth ≤ 50) ∧ ∀ p, H p = none → Q (.ref p) (upd H p (.lst (items.mergeSort (PySem.W.dataLe false k))))
theorem each_reads {X : Cx} {pins : List (Addr × Obj)} {σ : L2.St} {H : Hp} {s : Shared} (I : Inv X pins σ H s) (k : V → PyData) : ∀ {xs : List V} {us : List Value}, Vals xs us → (∀ x ∈ xs, Dp X.K H x (k x)) → PySem.W.EachIs (fun v x => ∃ as, Reads s.heap v (k x) as) us xs
  | _, _, .nil, _ => .nil
  | _, _, .cons h t, hd => .cons (Dp.reads I _ _ _ (hd _ List.mem_cons_self) h) (each_reads I k t fun x hx => hd x (List.mem_cons_of_mem _ hx))
section
variable {X : Cx}
theorem cr_sorted (hu : X.A.units + 64 < cLine) : CallR X (.builtin "sorted") (askSorted X.K) := by
  intro pins s σ H xs us Q I rel q
  obtain ⟨a, items, k, rfl, hs, hd, hal, hk, hdep, q⟩ := q
  obtain ⟨u, rfl, ru⟩ := vals1 rel
  cases ru
  obtain ⟨its, rv, hl, hz⟩ := I.list hs
  refine PySem.W.sorted_data (vs := its) (R := fun u x => RelV x u) (enc := k) (bs := items) hl.isList (vals_each rv) (each_reads I k rv hd) hal hk hz (fun x hx => ?_) fun out hlen ho => ?_
  · have := hdep x hx
    omega
  · obtain ⟨c, hc⟩ := sortedAll_at s.heap its out.toArray
    have hlen2 : (items.mergeSort (PySem.W.dataLe false k)).length ≤ sizeLine := by
      rw [List.length_mergeSort]
      exact hz
    exact ⟨.ref _, _, I.laid (t' := s.toks) (fun _ _ => sortedAll_old) (Nat.le_succ _) (show ObjOk X.prog X.w _ _ _ (.lst (items.mergeSort (PySem.W.dataLe false k))) from ⟨hlen2, out, c, each_vals ho, hc⟩), rfl, q _ (I.hok.fresh (Nat.le_succ _))⟩
end
end SWL
set_option Elab.async false
set_option linter.all false
set_option maxRecDepth 100000
set_option maxHeartbeats 4000000
namespace SWL
open PySem PySem.Spec PyProof.Rows L2 Calls
section
variable {prog : Program} {w : World} {A : Around} {s : Shared} {E : Value → Shared → Prop}
/-- sorted(xs, ..), xs a list or a tuple, is list.sort(..) of a new list -/
theorem collect_seq {T : String} (hT : T = "list" ∨ T = "tuple") {l : Addr} {vs : List Value} {o : Obj} {n : Nat} {Q : List Value → Shared → Prop} (ho : s.heap.get? l = some o) (hc : o.cls = .type T) (hd : o.data = .seq vs.toArray n)
    (hsz : vs.length ≤ sizeLine) (h : Q vs { s with heap := (s.heap.push (seqObj "list" #[] 0)).update s.heap.objs.size (Obj.mapSeq (· ++ vs.toArray)) }) : wpAny (model prog w) A (collect (.ref l)) Q E s := by
  have hnew : ∀ {h : Heap}, (h.push (seqObj "list" #[] 0)).get? h.objs.size = some (seqObj "list" #[] 0) := fun {h} => Heap.get?_push_size _ rfl
  have hold : (s.heap.push (seqObj "list" #[] 0)).get? l = some o := Heap.get?_push_of_some _ ho
  unfold collect
  refine wpAny_bind (wpAny_runValue (codeAny_builtin entry_proto_collect' (wpAny_bind (wpAny_newList (wpAny_pure ⟨Code.quiet_builtin _ (by decide +kernel), codeAny_builtin entry_list_iadd' ?_⟩)))))
  show wpAny _ _ (Builtin.List.listExtendWith (.ref s.heap.objs.size) (.ref l) (.ref s.heap.objs.size)) _ _ { s with heap := s.heap.push (seqObj "list" #[] 0) }
  unfold Builtin.List.listExtendWith
  refine wpAny_bind (wpAny_typeOf (T := T) ⟨o, hold, hc⟩ ?_)
  rw [if_pos (by rcases hT with e | e <;> subst e <;> first | rfl | decide | simp)]
  refine wpAny_bind (listItems_at hold hd (wpAny_bind (listItems_at (xs := #[]) (n := 0) hnew rfl ?_)))
  rw [if_neg (by simp)]
  refine wpAny_bind (listUpdate_at (xs := #[]) (n := 0) hnew rfl (wpAny_pure ?_) (Nat.zero_le _) (by show (#[] ++ vs.toArray).size ≤ sizeLine + 1; simp only [Array.size_append, List.size_toArray, List.length_nil]; omega))
  refine wpAny_bind (wpAny_load (get?_update_seq hnew _) ?_)
  have e : ((#[] : Array Value) ++ vs.toArray).toList = vs := by simp
  show wpAny _ _ (pure ((#[] : Array Value) ++ vs.toArray).toList) Q E _
  rw [e]
  exact wpAny_pure h
theorem sorted_of_seq {T : String} (hT : T = "list" ∨ T = "tuple") {l : Addr} {vs : List Value} {o : Obj} {n : Nat} {kw : List (Str × Value)} {Q : Value → Shared → Prop} (ho : s.heap.get? l = some o) (hc : o.cls = .type T) (hd : o.data = .seq vs.toArray n)
    (hL : vs.length ≤ sizeLine) (ha1 : argsOk "sorted" ⟨[.ref l], kw⟩) (ha2 : ∀ x, argsOk "list.sort" ⟨[.ref x], kw⟩)
    (body : ∀ E' : Value → Shared → Prop, wpAny (model prog w) A.in1.in1 (Builtin.«list.sort» ⟨[.ref (s.heap.objs.size + 1)], kw⟩) (fun f s' => f = .done (.ret .none) ∧ Q (.ref (s.heap.objs.size + 1)) s') E' { s with heap := PySem.W.copyHeap s.heap vs }) :
    wpAny (model prog w) A (call (.builtin "sorted") [.ref l] kw) Q E s := by
  refine call_function_entry_kw kind_sorted plain_sorted entry_sorted ha1 ?_
  unfold Builtin.«sorted»
  refine wpAny_bind (m := checkCount "sorted" 1 1 _) (wpAny_pure (wpAny_bind (collect_seq hT ho hc hd hL (wpAny_bind (wpAny_newList ?_ hL)))))
  have hs : ((s.heap.push (seqObj "list" #[] 0)).update s.heap.objs.size (Obj.mapSeq (· ++ vs.toArray))).objs.size = s.heap.objs.size + 1 := (Heap.size_update ..).trans (size_push' ..)
  show wpAny _ _ _ _ _ { s with heap := PySem.W.copyHeap s.heap vs }
  rw [hs]
  refine wpAny_bind (wpAny_holding (wpAny_call_entry_kw slot_list_sort ⟨_, PySem.W.copyHeap_at s.heap vs, rfl⟩ entry_list_sort ?_ (ha2 _)))
  refine wpAny_mono (body _) (fun f s' hf => ?_) fun _ _ e => e
  obtain ⟨rfl, hq⟩ := hf
  exact ⟨_, rfl, wpAny_pure ⟨_, rfl, hq⟩⟩
end
/-- a list or a tuple of xs -/
def Sq (K : PySem.W.Frag) (H : Hp) (a : Addr) (xs : List V) : Prop := SqL K H a xs ∨ SqT K H a xs
theorem isq {X : Cx} {pins : List (Addr × Obj)} {σ : L2.St} {H : Hp} {s : Shared} {a : Addr} {xs : List V} (I : Inv X pins σ H s) (h : Sq X.K H a xs) : ∃ (vs : List Value) (T : String) (o : Obj) (n : Nat), Vals xs vs ∧ (T = "list" ∨ T = "tuple") ∧ s.heap.get? a = some o ∧ o.cls = .type T ∧ o.data = .seq vs.toArray n ∧ xs.length ≤ sizeLine := by
  rcases h with h | h
  · obtain ⟨its, r, ⟨o, n, e, c, _, d⟩, z⟩ := I.list h
    exact ⟨its, "list", o, n, r, .inl rfl, e, c, d, z⟩
  · obtain ⟨its, r, ⟨o, e, c, n, d⟩, z⟩ := I.tuple h
    exact ⟨its, "tuple", o, n, r, .inr rfl, e, c, d, z⟩
theorem Grows.sq {K : PySem.W.Frag} {H H' : Hp} (g : Grows H H') {a : Addr} {xs : List V} (h : Sq K H a xs) : Sq K H' a xs := h.imp g.l g.t
end SWL
set_option Elab.async false
set_option linter.all false
set_option maxRecDepth 100000
set_option maxHeartbeats 4000000
namespace SWL
open PySem PySem.Spec PyProof.Rows L2
/-! sorted(xs, key=f), f a def of the text that raises nothing -/
def askSortedKey (K : PySem.W.Frag) (sp : Sp) (f : Addr) : List V → List V → Hp → VK → Prop := fun xs zs H Q => ∃ (a : Addr) (items : List V) (k : V → PyData), xs = [.ref a] ∧ zs = [.ref f] ∧ Sq K H a items ∧
  (∀ x ∈ items, ∀ H1, Grows H H1 → sp [x] H1 (fun v H2 => Grows H1 H2 ∧ Dp K H2 v (k x)) E0) ∧
  PySem.W.AllAlike (items.map k) ∧ PySem.W.Sortable (items.map k) ∧ (∀ x ∈ items, (k x).depth ≤ 50) ∧ ∀ H1 p, Grows H H1 → H1 p = none → Q (.ref p) (upd H1 p (.lst (items.mergeSort (PySem.W.dataLe false k))))
section
variable {X : Cx} {pins : List (Addr × Obj)} {σ : L2.St} {H : Hp} {s : Shared}
/-- one call from within two built-in calls: what stood untracked and is no frame's stands -/
theorem callIn {k : Nat} {f : Addr} {fd : FuncData} {ps : Str} {sp : Sp} {Q : VK} {x : V} {u : Value} {A : Around} {E : Value → Shared → Prop} {R : Value → Shared → Prop} (F : FnOk X.prog X.w X.K X.mg X.base CX0 k f fd [ps] sp) (hb : Binds X.K fd [ps] []) (hr : Room k A) (hA : A.frames = X.A.frames)
    (I : Inv X pins σ H s) (rx : RelV x u) (h : sp [x] H Q E0)
    (hR : ∀ (v : V) (w : Value) (H' : Hp) (s' : Shared), Inv X pins σ H' s' → RelV v w → Q v H' → (∀ b o, s.heap.get? b = some o → H b = none → b ∉ frs X.stack → s'.heap.get? b = some o ∧ H' b = none) → R w s') :
    wpAny (model X.prog X.w) A (call (.ref f) [u]) R E s := by
  have e1 := I.env0
  have e0 : Env0 X.prog X.w X.K X.mg X.base A X.stack s H := ⟨by rw [hA]; exact e1.frames, e1.mod, e1.bs, e1.bsz, e1.funs, e1.frf, e1.hok, e1.bare⟩
  refine wpAny_call (codeAny_mono (F.run A X.stack s H ⟨[u], []⟩ [u] [x] Q E0 hr e0 (hb s [u] I.kIn rfl) (.cons rx .nil) h) fun r s' hq => ?_)
  cases r with
  | error e => exact False.elim hq
  | ok fl =>
    cases fl with
    | next => exact False.elim hq
    | brk => exact False.elim hq
    | cont => exact False.elim hq
    | ret w =>
      obtain ⟨v, H', os, bare, un, hok, rv, q⟩ := hq
      obtain ⟨v2, H2, J, rv2, e1, e2⟩ := I.after (Q := fun v2 H2 => v2 = v ∧ H2 = H') ⟨v, H', os, bare, un, hok, rv, rfl, rfl⟩
      subst e1 e2
      exact hR _ _ _ _ J rv q fun b o e n nf => ⟨un.keep b o e n nf (by simp), un.free b o e n (by simp)⟩
theorem each_dp {K : PySem.W.Frag} {k : V → PyData} {H H' : Hp} (g : Grows H H') {us : List Value} {xs : List V} (h : PySem.W.EachIs (fun v x => ∃ y, RelV y v ∧ Dp K H y (k x)) us xs) : PySem.W.EachIs (fun v x => ∃ y, RelV y v ∧ Dp K H' y (k x)) us xs :=
  h.mono fun v x ⟨y, r, d⟩ => ⟨y, r, g.dp _ _ d⟩
theorem each_last {α β : Type} {R : α → β → Prop} {a : α} {b : β} (h : R a b) : ∀ {as : List α} {bs : List β}, PySem.W.EachIs R as bs → PySem.W.EachIs R (as ++ [a]) (bs ++ [b])
  | _, _, .nil => .cons h .nil
  | _, _, .cons q t => .cons q (each_last h t)
theorem crk_sortedKey {k : Nat} {f : Addr} {fd : FuncData} {ps : Str} {sp : Sp} (F : FnOk X.prog X.w X.K X.mg X.base CX0 k f fd [ps] sp) (hb : Binds X.K fd [ps] []) (hr : Room (k + 2) X.A) : CallRK X (.builtin "sorted") [Str.ofString "key"] (askSortedKey X.K sp f) := by
  intro pins s σ H xs zs us ws Q I rel relz q
  obtain ⟨a0, items, kf, rfl, rfl, hs, hsp, hal, hk, hdep, q⟩ := q
  obtain ⟨u, rfl, ru⟩ := vals1 rel
  obtain ⟨wf, rfl, rw_⟩ := vals1 relz
  cases ru
  cases rw_
  obtain ⟨vs, T, o, n, rv, hT, hget, hcl, hdt, hz⟩ := isq I hs
  have hvl : vs.length = items.length := rv.length.symm
  have hzv : vs.length ≤ sizeLine := by rw [hvl]; exact hz
  have hunits : X.A.units + 16 * (k + 2) + 200 < cLine := hr.un
  show wpAny _ _ (call (.builtin "sorted") [.ref a0] [(Str.ofString "key", .ref f)]) _ _ _
  refine sorted_of_seq hT hget hcl hdt hzv (ksk_s1 _ _) (fun _ => ksk_l1 _ _) fun E' => ?_
  rw [ksk_t1]
  generalize hA : s.heap.objs.size + 1 = a
  have I0 : Inv X pins σ H { s with heap := PySem.W.copyHeap s.heap vs } := I.kept (t' := s.toks) fun b o e => PySem.W.copyHeap_old e
  have ha : (PySem.W.copyHeap s.heap vs).get? a = some (seqObj "list" vs.toArray 0) := by rw [← hA]; exact PySem.W.copyHeap_at s.heap vs
  obtain ⟨e1, ha1⟩ : ∃ e1, ((PySem.W.copyHeap s.heap vs).update a (Obj.mapSeq fun _ => (#[] : Array Value))).get? a = some (seqObj "list" #[] e1) := ⟨_, get?_update_seq ha fun _ => #[]⟩
  have szS : s.heap.objs.size ≤ a := by rw [← hA]; exact Nat.le_succ _
  unfold ksk_tree
  refine wpAny_bind (listItems_at ha rfl ?_)
  refine wpAny_bind (listUpdate_at ha rfl ?_ (by rw [List.size_toArray]; exact hzv) (Nat.zero_le _))
  refine wpAny_bind (seqEpoch_at ha1 rfl ?_)
  refine wpAny_bind (wpAny_newTuple ?_ (by show vs.length ≤ _; exact hzv))
  refine wpAny_bind (wpAny_newList ?_ (Nat.zero_le _))
  refine wpAny_holding ?_
  generalize hh3 : (((PySem.W.copyHeap s.heap vs).update a (Obj.mapSeq fun _ => (#[] : Array Value))).push (seqObj "tuple" vs.toArray 0)) = h2
  generalize hkS : h2.objs.size = kS
  have keep : ∀ b o, s.heap.get? b = some o → (h2.push (seqObj "list" #[] 0)).get? b = some o := fun b o e => by
    have q := PySem.W.sorting_copy_old (vs := vs) e
    unfold PySem.W.sortingHeap at q
    rw [hA, hh3] at q
    exact q
  have hkS3 : (h2.push (seqObj "list" #[] 0)).get? kS = some (seqObj "list" #[] 0) := by rw [← hkS]; exact Heap.get?_push_size _ rfl
  have ha3 : (h2.push (seqObj "list" #[] 0)).get? a = some (seqObj "list" #[] e1) := by
    refine Heap.get?_push_of_some _ ?_
    rw [← hh3]
    exact Heap.get?_push_of_some _ ha1
  have hkSa : a < kS := by
    rw [← hkS, ← hh3, size_push', Heap.size_update]
    exact Nat.lt_succ_of_lt (Heap.lt_size ha)
  have szK : s.heap.objs.size ≤ kS := Nat.le_trans szS (Nat.le_of_lt hkSa)
  have I3 : Inv X pins σ H { s with heap := h2.push (seqObj "list" #[] 0) } := I.kept (t' := s.toks) keep
  have fpK : ∀ {H' : Hp}, H' kS = none → FpOk X pins H' kS := fun n => I.fpOk szK n
  have fpA : ∀ {H' : Hp}, H' a = none → FpOk X pins H' a := fun n => I.fpOk szS n
  have nfK := noFrame I szK
  have nfA := noFrame I szS
  show wpAny _ X.A.in1.in1 (ksk_rest a (.ref f) false vs.toArray e1 (.ref kS)) _ _ _
  unfold ksk_rest
  refine wpAny_bind (wpAny_rule ?_)
  first
    | rw [List.forIn_toArray]
    | (rw [← Array.forIn_toList]; simp only [List.toList_toArray])
  refine wpAny_bind (ksk_fold (fun i s' => ∃ (Hc : Hp) (kA : Array Value) (e : Nat), Inv X pins σ Hc s' ∧ Grows H Hc ∧ s'.heap.get? kS = some (seqObj "list" kA e) ∧ s'.heap.get? a = some (seqObj "list" #[] e1) ∧ Hc kS = none ∧ Hc a = none ∧
    PySem.W.EachIs (fun v x => ∃ y, RelV y v ∧ Dp X.K Hc y (kf x)) kA.toList (items.take i)) vs 0 _ ⟨H, #[], 0, I3, .refl H, hkS3, ha3, I.hok.fresh szK, I.hok.fresh szS, by rw [List.take_zero]; exact .nil⟩ ?step ?done)
  case step =>
    rintro j v s' hx ⟨Hc, kA, e, J, g, nk, na, fk, fa, hE⟩
    simp only [Nat.zero_add] at hE ⊢
    have hj : j < items.length := by
      rw [← hvl]
      exact (List.getElem?_eq_some_iff.mp hx).1
    have hxi : items[j]? = some items[j] := List.getElem?_eq_getElem hj
    obtain ⟨v', hv', rx⟩ := rv.get hxi
    rw [hx] at hv'
    cases hv'
    have hsz : kA.size ≤ vs.length := by
      have h1 := hE.length
      rw [Array.length_toList, List.length_take] at h1
      omega
    refine wpAny_bind (wpAny_attempt ?_)
    refine callIn (A := X.A.in1.in1) F hb ((hr.in1).in1) rfl J rx (hsp _ (List.getElem_mem hj) Hc g) fun y w H' s2 J2 ry hy hkeep => ?_
    obtain ⟨g2, hd⟩ := hy
    obtain ⟨nk2, fk2⟩ := hkeep kS _ nk fk nfK
    obtain ⟨na2, fa2⟩ := hkeep a _ na fa nfA
    try dsimp only
    have s1 := Heap.SameBut.update s2.heap kS (Obj.mapSeq (·.push w))
    obtain ⟨c2, hc2⟩ : ∃ c2, (s2.heap.update kS (Obj.mapSeq (·.push w))).get? kS = some (seqObj "list" (kA.push w) c2) := ⟨_, get?_update_seq nk2 (·.push w)⟩
    refine wpAny_bind (listUpdate_at nk2 rfl ?_ (Nat.le_trans hsz hzv) (Nat.le_trans (Nat.le_of_eq (Array.size_push ..)) (Nat.succ_le_succ (Nat.le_trans hsz hzv))))
    have J3 : Inv X pins σ H' { s2 with heap := s2.heap.update kS (Obj.mapSeq (·.push w)) } := by
      obtain ⟨z1, z2, _, z3, z4, z5⟩ := fpK fk2
      exact J2.turned (t' := s2.toks) (it := kS) (fun b o hb e => (s1.2 b hb).trans e) z1 z2 z3 z4 z5
    refine wpAny_pure ⟨rfl, H', kA.push w, c2, J3, g.trans g2, hc2, (s1.2 a (Nat.ne_of_lt hkSa)).trans na2, fk2, fa2, ?_⟩
    have ek : items.take (j + 1) = items.take j ++ [items[j]] := by rw [List.take_add_one, hxi]; rfl
    rw [ek, Array.toList_push]
    exact each_last ⟨y, ry, hd⟩ (each_dp g2 hE)
  case done =>
    rintro s' ⟨Hc, kA, e, J, g, nk, na, fk, fa, hE⟩
    have et : items.take (0 + vs.length) = items := List.take_of_length_le (by omega)
    rw [et] at hE
    have hsz : kA.size = vs.length := by
      have h1 := hE.length
      rw [Array.length_toList] at h1
      omega
    try dsimp only
    refine wpAny_bind (listItems_at nk rfl ?_)
    have hE2 : PySem.W.EachIs (fun v d => ∃ as, Reads s'.heap v d as) kA.toList (items.map kf) := PySem.W.each_map kf (hE.mono fun v x ⟨y, r, d⟩ => Dp.reads J _ _ _ d r)
    have hkp : PySem.W.KeepsBut a (PySem.W.hideAll s'.heap [kS]) s'.heap := fun b o _ e => PySem.W.of_hideAll _ e
    refine PySem.W.keyH_end (κ := PySem.W.dataKind s'.heap (items.map kf)) (h₁ := PySem.W.hideAll s'.heap [kS]) hkp (PySem.W.hideAll_none _ (by simp)) nk na (Nat.ne_of_gt hkSa)
      (PySem.W.SortsAt.data (s := s') hE2 hal hk (fun d hd => ?_)) hsz hzv fun h3 tk3 c k3 n3 => ⟨rfl, ?_⟩
    · obtain ⟨x, hx, rfl⟩ := List.mem_map.mp hd
      have := hdep x hx
      show X.A.units + 1 + 1 + _ < _
      omega
    · have ko : PySem.W.KeyedOut false (items.map kf) vs (PySem.W.sortVals (PySem.W.dataKind s'.heap (items.map kf)) false kA.toList vs) := ⟨s'.heap, kA.toList, hal, rfl, hE2⟩
      have ho := PySem.W.keyedOut_each kf ko (vals_each rv)
      have J3 : Inv X pins σ Hc { s' with heap := h3, toks := tk3 } := J.turnedL (t' := tk3) (ch := [a, kS]) (fun b o hb e => by
        rw [List.mem_cons, List.mem_singleton, not_or] at hb
        exact k3 b o hb.1 (PySem.W.hideAll_get _ e (by simpa using hb.2))) (fun b hb => by
        rcases (by simpa using hb : b = a ∨ b = kS) with z | z
        · rw [z]; exact fpA fa
        · rw [z]; exact fpK fk)
      have hlen2 : (items.mergeSort (PySem.W.dataLe false kf)).length ≤ sizeLine := by
        rw [List.length_mergeSort]
        exact hz
      exact ⟨.ref a, upd Hc a (.lst (items.mergeSort (PySem.W.dataLe false kf))), track J3 (fpA fa) (Nat.le_trans I.sz szS) ⟨hlen2, _, c, each_vals ho, n3⟩, rfl, q Hc a g fa⟩
end
end SWL
set_option Elab.async false
set_option linter.all false
set_option maxRecDepth 100000
set_option maxHeartbeats 4000000
namespace SWL
open PySem PySem.Spec PyProof.Rows L2
/-! sorted(dict(pairs)), the pairs' keys tuples of numbers and texts -/
def encK : Key → PyData
  | .inl i => .int i
  | .inr z => .str z
def encT (k : List Key) : PyData := .tuple (k.map encK)
def oneMore (acc : List (List Key)) (k : List Key) : List (List Key) := if acc.any (fun z => decide (z = k)) = true then acc else acc ++ [k]
def firsts (ks : List (List Key)) : List (List Key) := ks.foldl oneMore []
theorem atKey_isSome (k : List Key) : ∀ xs : List (List Key × Addr × Value), (atKey xs k).isSome = (xs.map (·.1)).any (fun z => decide (z = k))
  | [] => rfl
  | x :: xs => by
    have ih := atKey_isSome k xs
    unfold atKey at ih ⊢
    by_cases h : x.1 = k
    · simp [h]
    · simp only [List.find?_cons, h, decide_false, List.map_cons, List.any_cons, Bool.false_or]
      exact ih
theorem storedH_keys (xs : List (List Key × Addr × Value)) (k : List Key) (a : Addr) (v : Value) : (storedH xs k a v).map (·.1) = oneMore (xs.map (·.1)) k := by
  unfold storedH oneMore
  rw [atKey_isSome]
  split
  · rw [List.map_map]
    refine List.map_congr_left fun x _ => ?_
    simp only [Function.comp, putAt]
    split <;> rfl
  · rw [List.map_append]
    rfl
theorem storedAll_keys (ps : List (List Key × Addr × Value)) : (storedAllH [] ps).map (·.1) = firsts (ps.map (·.1)) := by
  have gen : ∀ (ps xs : List (List Key × Addr × Value)), (storedAllH xs ps).map (·.1) = (ps.map (·.1)).foldl oneMore (xs.map (·.1)) := by
    intro ps
    induction ps with
    | nil => intro xs; rfl
    | cons p ps ih =>
      intro xs
      show (storedAllH (storedH xs p.1 p.2.1 p.2.2) ps).map (·.1) = _
      rw [ih, storedH_keys]
      rfl
  exact gen ps []
/-- an item of the list: the pair's place, the key's place, the key, the value -/
structure PairIn where
  at_ : Addr
  key_at : Addr
  key : List Key
  val : V
def PairIn.ok (H : Hp) (p : PairIn) : Prop := H p.at_ = some (.tup [.ref p.key_at, p.val]) ∧ H p.key_at = some (.tup (p.key.map kV))
def askSortedDict (K : PySem.W.Frag) : V → Hp → VK → Prop := fun v H Q => ∃ (a : Addr) (ps : List PairIn), v = .ref a ∧ H a = some (.lst (ps.map fun p => .ref p.at_)) ∧ (∀ p ∈ ps, p.ok H) ∧
  PySem.W.AllAlike ((firsts (ps.map (·.key))).map encT) ∧ (∀ p ∈ ps, p.key ≠ []) ∧
  ∀ (out : List (Addr × List Key)), (∀ q ∈ out, H q.1 = some (.tup (q.2.map kV))) → out.map (·.2) = (firsts (ps.map (·.key))).mergeSort (PySem.W.dataLe false encT) → ∀ p, H p = none → Q (.ref p) (upd H p (.lst (out.map fun q => .ref q.1)))
theorem items_of {P : Program} {w : World} : ∀ (ks : List Key) (us : List Value), Vals (ks.map kV) us → ItemsAre (mixKind P w) ks us
  | [], _, h => by cases h; exact .nil
  | k :: ks, _, h => by
    cases h with
    | cons h1 h2 =>
      refine .cons ?_ (items_of ks _ h2)
      cases k with
      | inl i =>
        obtain ⟨t, rfl⟩ := h1
        exact keyIs_int i t
      | inr z =>
        obtain ⟨t, rfl⟩ := h1
        exact keyIs_str z t
theorem vals_of_items {P : Program} {w : World} {h : Heap} : ∀ (ks : List Key) (us : List Value), ItemsAre (mixKind P w) ks us → ReadsAll h us (ks.map encK) []
  | [], _, q => by cases q; exact .nil
  | k :: ks, _, q => by
    cases q with
    | cons h1 h2 =>
      rcases keyIs_shape h1 with ⟨i, t, rfl, rfl⟩ | ⟨z, t, rfl, rfl⟩
      · exact .cons (as := []) (bs := []) (.int i t) (vals_of_items ks _ h2)
      · exact .cons (as := []) (bs := []) (.str z t) (vals_of_items ks _ h2)
end SWL
set_option Elab.async false
set_option linter.all false
set_option maxRecDepth 100000
set_option maxHeartbeats 4000000
namespace SWL
open PySem PySem.Spec PyProof.Rows L2
section
variable {X : Cx} {pins : List (Addr × Obj)} {σ : L2.St} {H : Hp} {s : Shared}
/-- the pairs as the machine has them -/
theorem pairs_there (I : Inv X pins σ H s) : ∀ (ps : List PairIn), (∀ p ∈ ps, p.ok H) → ∃ xs : List (List Key × Addr × Value), xs.length = ps.length ∧
    ∀ (j : Nat) (p : PairIn), ps[j]? = some p → ∃ v, xs[j]? = some (p.key, p.key_at, v) ∧ PairAt s.heap p.at_ (.ref p.key_at) v ∧ IsTupleKey (mixKind X.prog X.w) s.heap p.key p.key_at
  | [], _ => ⟨[], rfl, fun j p h => by simp at h⟩
  | p :: ps, h => by
    obtain ⟨xs, hl, hx⟩ := pairs_there I ps fun q hq => h q (List.mem_cons_of_mem _ hq)
    obtain ⟨h1, h2⟩ := h p List.mem_cons_self
    obtain ⟨_, its, r1, t1⟩ := (show ObjOk X.prog X.w H s.heap p.at_ (.tup [.ref p.key_at, p.val]) from I.hok _ _ h1)
    obtain ⟨_, its2, r2, t2⟩ := (show ObjOk X.prog X.w H s.heap p.key_at (.tup (p.key.map kV)) from I.hok _ _ h2)
    obtain ⟨u1, u2, rfl, rr1, rr2⟩ := vals2 r1
    cases rr1
    refine ⟨(p.key, p.key_at, u2) :: xs, by simp [hl], fun j q hq => ?_⟩
    cases j with
    | zero =>
      have e : p = q := Option.some.inj hq
      subst e
      obtain ⟨o2, g1, g2, n2, g3⟩ := t2
      exact ⟨u2, rfl, .inl t1, ⟨o2, its2.toArray, n2, g1, g2, g3, items_of _ _ r2⟩⟩
    | succ j => exact hx j q hq
theorem tup_reads {P : Program} {w : World} {h : Heap} {k : List Key} {a : Addr} (x : IsTupleKey (mixKind P w) h k a) : Reads h (.ref a) (encT k) [] := by
  obtain ⟨o, its, n, h1, h2, h3, h4⟩ := x
  exact .tuple h1 h2 h3 (vals_of_items _ _ h4)
theorem storedH_mem {xs : List (List Key × Addr × Value)} {k : List Key} {a : Addr} {v : Value} {y : List Key × Addr × Value} (h : y ∈ storedH xs k a v) : (∃ z ∈ xs, z.1 = y.1 ∧ z.2.1 = y.2.1) ∨ (y.1 = k ∧ y.2.1 = a) := by
  unfold storedH at h
  split at h
  · obtain ⟨z, hz, rfl⟩ := List.mem_map.mp h
    refine .inl ⟨z, hz, ?_⟩
    simp only [putAt]
    split <;> exact ⟨rfl, rfl⟩
  · rcases List.mem_append.mp h with q | q
    · exact .inl ⟨y, q, rfl, rfl⟩
    · have e := List.mem_singleton.mp q
      subst e
      exact .inr ⟨rfl, rfl⟩
theorem storedAll_mem : ∀ (ps xs : List (List Key × Addr × Value)) {y : List Key × Addr × Value}, y ∈ storedAllH xs ps → (∃ z ∈ xs, z.1 = y.1 ∧ z.2.1 = y.2.1) ∨ ∃ z ∈ ps, z.1 = y.1 ∧ z.2.1 = y.2.1
  | [], xs, y, h => .inl ⟨y, h, rfl, rfl⟩
  | p :: ps, xs, y, h => by
    rcases storedAll_mem ps (storedH xs p.1 p.2.1 p.2.2) h with ⟨z, hz, e1, e2⟩ | ⟨z, hz, e1, e2⟩
    · rcases storedH_mem hz with ⟨w, hw, f1, f2⟩ | ⟨f1, f2⟩
      · exact .inl ⟨w, hw, f1.trans e1, f2.trans e2⟩
      · exact .inr ⟨p, List.mem_cons_self, f1.symm.trans e1, f2.symm.trans e2⟩
    · exact .inr ⟨z, List.mem_cons_of_mem _ hz, e1, e2⟩
theorem each_toList {xs : List (List Key × Addr × Value)} {acc : Array Value} (hs : acc.size = xs.length) (h : ∀ (i : Nat) (v : Value), acc[i]? = some v → ∃ y, xs[i]? = some y ∧ v = Value.ref y.2.1) : PySem.W.EachIs (fun v (y : List Key × Addr × Value) => v = Value.ref y.2.1) acc.toList xs := by
  refine PySem.W.EachIs.of_zip (by rw [Array.length_toList]; exact hs) fun p hp => ?_
  obtain ⟨i, hi⟩ := List.getElem?_of_mem hp
  rw [List.getElem?_zip_eq_some] at hi
  obtain ⟨y, hy, e⟩ := h i p.1 (by rw [← Array.getElem?_toList]; exact hi.1)
  rw [hi.2] at hy
  cases hy
  exact e
theorem each_refs : ∀ {us : List Value} {ys : List (List Key × Addr × Value)}, PySem.W.EachIs (fun v (y : List Key × Addr × Value) => v = Value.ref y.2.1) us ys → Vals (ys.map fun y => V.ref y.2.1) us
  | _, _, .nil => .nil
  | _, _, .cons h t => by
    subst h
    exact .cons rfl (each_refs t)
/-- sorted(d), d a dict (untracked) whose keys are tuples of the written kinds -/
theorem sorted_dictH {d : Addr} {xs : List (List Key × Addr × Value)} {Q : VK} (hc : X.calm = true) (hu : X.A.units + 64 < cLine) (I : Inv X pins σ H s) (lo : (d == sysModules) = false) (hd : s.heap.DictOfH (tupleKind (mixKind X.prog X.w)) d xs) (hz : xs.length ≤ sizeLine)
    (hal : PySem.W.AllAlike ((xs.map (·.1)).map encT)) (hne : ∀ x ∈ xs, x.1 ≠ [])
    (q : ∀ ys : List (List Key × Addr × Value), ys = xs.mergeSort (PySem.W.dataLe false fun y => encT y.1) → ∀ p, H p = none → Q (.ref p) (upd H p (.lst (ys.map fun y => V.ref y.2.1)))) :
    wpAny (model X.prog X.w) X.A (call (.builtin "sorted") [.ref d]) (EP X pins σ Q) X.xe s := by
  have hh := I.ok.hd hc
  obtain ⟨es, ep, hr, hsz, hent⟩ := hd.raw
  have e0 : es.size ≤ sizeLine := by rw [hsz]; exact hz
  refine Calls.call_function_entry kind_sorted plain_sorted entry_sorted (args_sorted1 _) ?_
  unfold Builtin.«sorted»
  refine wpAny_bind (m := checkCount "sorted" 1 1 _) (wpAny_pure ?_)
  refine wpAny_bind (PySem.W.kdu_collect (A := X.A.in1) (KdlSrc.rawDict lo) hh hr e0 fun h' tk acc hk hacc => ?_)
  have hal2 : acc.size = xs.length := by rw [hacc.1, hsz]
  have hE : PySem.W.EachIs (fun v (y : List Key × Addr × Value) => v = Value.ref y.2.1) acc.toList xs := each_toList hal2 fun i v hv => by
    obtain ⟨hi, e⟩ := hacc.2 i v hv
    obtain ⟨y, hy, e2, _, _⟩ := hent i hi
    exact ⟨y, hy, e.trans e2⟩
  have I1 : Inv X pins σ H { s with heap := h', toks := tk } := I.kept hk
  have hzl : acc.toList.length ≤ sizeLine := by rw [Array.length_toList, hal2]; exact hz
  refine wpAny_bind (wpAny_newList ?_ hzl)
  have hoL : (h'.push (seqObj "list" acc.toList.toArray 0)).get? h'.objs.size = some (seqObj "list" acc.toList.toArray 0) := Heap.get?_push_size _ rfl
  have kp : ∀ b o, s.heap.get? b = some o → (h'.push (seqObj "list" acc.toList.toArray 0)).get? b = some o := fun b o e => Heap.get?_push_of_some _ (hk b o e)
  show wpAny _ _ _ _ _ { s with heap := h'.push (seqObj "list" acc.toList.toArray 0), toks := tk }
  obtain ⟨_, _, _, _, _, _, _, his, _⟩ := id hd
  have hR : PySem.W.EachIs (fun v (y : List Key × Addr × Value) => ∃ as, Reads (h'.push (seqObj "list" acc.toList.toArray 0)) v (encT y.1) as ∧ h'.objs.size ∉ as) acc.toList xs := by
    refine (PySem.W.each_mem hE).mono fun v y ⟨e, hy⟩ => ⟨[], ?_, by simp⟩
    subst e
    exact PyProof.Rows.Reads.keeps kp (tup_reads (his y hy))
  refine wpAny_bind (wpAny_holding ?_)
  refine PySem.W.list_sort_data (s := { s with heap := h'.push (seqObj "list" acc.toList.toArray 0), toks := tk }) (enc := fun y : List Key × Addr × Value => encT y.1) (bs := xs) hoL hE hR (by rw [List.map_map] at hal; exact hal) (.inl fun dd hdd => ?_) hz (fun y _ => ?_) fun out hlen ho => ?_
  · obtain ⟨y, hy, rfl⟩ := List.mem_map.mp hdd
    cases e : y.1 with
    | nil => exact absurd e (hne y hy)
    | cons k r => exact ⟨encK k, r.map encK, rfl⟩
  · have hdep : (encT y.1).depth = 1 := by
      have z : ∀ l : List Key, PyData.depthAll (l.map encK) = 0 := by
        intro l
        induction l with
        | nil => rfl
        | cons k r ih =>
          show PyData.depthAll (encK k :: r.map encK) = 0
          rw [PyData.depthAll, ih]
          cases k <;> rfl
      show PyData.depth (.tuple (y.1.map encK)) = 1
      rw [PyData.depth, z]
    rw [hdep]
    show X.A.units + 1 + 1 + 1 < cLine
    omega
  · obtain ⟨c, hc2⟩ := sortedHeap_at (vs := acc.toList) (out := out.toArray) hoL
    have hv := each_refs ho
    have hlen2 : ((xs.mergeSort (PySem.W.dataLe false fun y => encT y.1)).map fun y => V.ref y.2.1).length ≤ sizeLine := by
      rw [List.length_map, List.length_mergeSort]
      exact hz
    refine wpAny_pure ⟨_, rfl, .ref h'.objs.size, upd H h'.objs.size _, I1.laid (t' := tk) (fun b u e => ?_) (Nat.le_refl _) (show ObjOk X.prog X.w _ _ _ (.lst _) from ⟨hlen2, out, c, hv, hc2⟩), rfl, q _ rfl _ (I1.hok.fresh (Nat.le_refl _))⟩
    have hb : b < h'.objs.size := Heap.lt_size e
    exact (sortedHeap_old (Nat.ne_of_lt hb) (by rw [size_push']; exact Nat.lt_succ_of_lt hb)).trans (Heap.get?_push_of_some _ e)
end
end SWL
set_option Elab.async false
set_option linter.all false
set_option maxRecDepth 100000
set_option maxHeartbeats 4000000
namespace SWL
open PySem PySem.Spec PyProof.Rows L2
section
variable {X : Cx}
theorem vals_refs : ∀ {ps : List PairIn} {us : List Value}, Vals (ps.map fun p => V.ref p.at_) us → us = ps.map fun p => Value.ref p.at_
  | [], _, h => by cases h; rfl
  | p :: ps, _, h => by
    cases h with
    | cons h1 h2 =>
      rw [vals_refs h2]
      cases h1
      rfl
theorem pe_sortedDict {e : Expr} {te : TE} {p1 p2 p3 p4 : Pos} (hc : X.calm = true) (hu : X.A.units + 64 < cLine) (g1 : Gl X "sorted") (m1 : X.mg "sorted" = none) (g2 : Gl X "dict") (m2 : X.mg "dict" = none) (he : PE X e te)
    (hs : starEach [e] X.env = (false, eval e X.env) :: starEach [] X.env := by rfl) :
    PE X (.Call (.Name "sorted" p1) [.Call (.Name "dict" p2) [e] [] p3] [] p4) (fun σ H Q => te σ H fun v H1 => askSortedDict X.K v H1 Q) := by
  refine ⟨fun pins s σ H Q I h => wpAny_Call_Name_kw (ld_blt I g1 m1 (by decide +kernel : bootBuiltins "sorted" = some (.builtin "sorted")) (callWith_builtin1 ?_ rfl rfl))⟩
  show wpAny _ _ (spliced ((false, eval (.Call (.Name "dict" p2) [e] [] p3) X.env) :: backTo p4 (starEach [] X.env))) _ _ s
  let Q' : List V → Hp → Prop := fun vs H1 => match vs with | [v] => askSortedDict X.K v H1 Q | _ => False
  refine Calls.spliced_cons (wpAny_Call_Name_kw (ld_blt I g2 m2 (by decide +kernel : bootBuiltins "dict" = some (.type "dict")) (callWith_type1 (thn ((pa_cons he pa_nil hs).run p3 pins s σ H Q' I h) fun us s1 q => ?_) hs rfl)))
  obtain ⟨vs, H1, I1, rel, q⟩ := q
  obtain ⟨v0, rfl⟩ : ∃ v0, vs = [v0] := by
    cases vs with
    | nil => exact q.elim
    | cons v r => cases r with
      | nil => exact ⟨v, rfl⟩
      | cons _ _ => exact q.elim
  obtain ⟨a, ps, rfl, hl, hok, hal, hne, q⟩ := (show askSortedDict X.K v0 H1 Q from q)
  obtain ⟨u, rfl, ru⟩ := vals1 rel
  cases ru
  obtain ⟨hz0, its, n0, rv, ho⟩ := (show ObjOk X.prog X.w H1 s1.heap a (.lst _) from I1.hok _ _ hl)
  have hz : ps.length ≤ sizeLine := by rw [List.length_map] at hz0; exact hz0
  have eits := vals_refs rv
  obtain ⟨xs, hlen, hx⟩ := pairs_there I1 ps hok
  have hh := I1.ok.hd hc
  have hkeys : xs.map (·.1) = ps.map (·.key) := by
    refine List.ext_getElem? fun j => ?_
    rw [List.getElem?_map, List.getElem?_map]
    cases e : ps[j]? with
    | none =>
      have z : xs[j]? = none := List.getElem?_eq_none_iff.mpr (by rw [hlen]; exact List.getElem?_eq_none_iff.mp e)
      rw [z]
      rfl
    | some p =>
      obtain ⟨v, e2, _⟩ := hx j p e
      rw [e2]
      rfl
  let Ts : Nat → Addr := fun j => ((ps[j]?).map (·.at_)).getD 0
  let psv : List (Value × Value) := xs.map fun x => (Value.ref x.2.1, x.2.2)
  have hpsv : psv.length = ps.length := by rw [List.length_map, hlen]
  have at_j : ∀ (j : Nat) (k v : Value), psv[j]? = some (k, v) → ∃ p, ps[j]? = some p ∧ k = .ref p.key_at ∧ xs[j]? = some (p.key, p.key_at, v) ∧ PairAt s1.heap p.at_ k v := by
    intro j k v e
    rw [List.getElem?_map] at e
    cases e2 : xs[j]? with
    | none => rw [e2] at e; simp at e
    | some x =>
      have hj : j < ps.length := by
        rw [← hlen]
        exact (List.getElem?_eq_some_iff.mp e2).1
      obtain ⟨v', e3, pa, _⟩ := hx j _ (List.getElem?_eq_getElem hj)
      rw [e2] at e e3
      cases e3
      cases e
      exact ⟨_, List.getElem?_eq_getElem hj, rfl, rfl, pa⟩
  have hkt : ∀ x ∈ xs, IsTupleKey (mixKind X.prog X.w) s1.heap x.1 x.2.1 := fun x hxm => by
    obtain ⟨j, hj⟩ := List.getElem?_of_mem hxm
    have hj2 : j < ps.length := by
      rw [← hlen]
      exact (List.getElem?_eq_some_iff.mp hj).1
    obtain ⟨v', e3, _, t⟩ := hx j _ (List.getElem?_eq_getElem hj2)
    rw [hj] at e3
    cases e3
    exact t
  have hH : ∀ x ∈ xs, H1 x.2.1 = some (.tup (x.1.map kV)) := fun x hxm => by
    obtain ⟨j, hj⟩ := List.getElem?_of_mem hxm
    have hj2 : j < ps.length := by
      rw [← hlen]
      exact (List.getElem?_eq_some_iff.mp hj).1
    obtain ⟨v', e3, _, t⟩ := hx j _ (List.getElem?_eq_getElem hj2)
    rw [hj] at e3
    cases e3
    exact (hok _ (List.getElem_mem hj2)).2
  have hls : psv.length ≤ sizeLine := by rw [hpsv]; exact hz
  refine PySem.call_dict_pairsH (A := X.A) (s := s1) (knd := tupleKind (mixKind X.prog X.w)) (ps := xs) (PairArg.list a its.toArray Ts psv) hh ?room ⟨⟨_, _, ho, rfl, rfl, rfl⟩, ?items⟩ ?hc ?hst hls fun h' tk hD hk => ?fin
  case items =>
    refine ⟨?_, fun j k v e => ?_⟩
    · rw [List.size_toArray, eits, List.length_map, hpsv]
    · obtain ⟨p, e1, _, _, pa⟩ := at_j j k v e
      have eT : Ts j = p.at_ := by show ((ps[j]?).map (·.at_)).getD 0 = _; rw [e1]; rfl
      rw [eT]
      refine ⟨?_, pa⟩
      rw [List.getElem?_toArray, eits, List.getElem?_map, e1]
      rfl
  case hc =>
    refine ⟨by rw [hpsv, hlen], fun i key v e => ?_⟩
    obtain ⟨p, e1, ek, e3, pa⟩ := at_j i key v e
    exact ⟨_, _, e3, ek⟩
  case hst =>
    intro h2 hk2 x hxm
    obtain ⟨o, its2, n2, z1, z2, z3, z4⟩ := hkt x hxm
    exact ⟨o, its2, n2, hk2 _ _ (Nat.ne_of_lt (Heap.lt_size z1)) (by simp) z1, z2, z3, z4⟩
  case fin =>
    refine Calls.spliced_nil ?_
    have I2 : Inv X pins σ H1 { s1 with heap := h', toks := tk } := I1.kept fun b o e => hk b o (by simp) e
    have ek := storedAll_keys xs
    rw [hkeys] at ek
    have mem1 : ∀ y ∈ storedAllH [] xs, H1 y.2.1 = some (.tup (y.1.map kV)) := fun y hy => by
      rcases storedAll_mem xs [] hy with ⟨z, hz2, _, _⟩ | ⟨z, hz2, f1, f2⟩
      · simp at hz2
      · rw [← f1, ← f2]
        exact hH z hz2
    have hlen2 : (storedAllH [] xs).length ≤ sizeLine := by
      have := storedAllH_length xs []
      simp at this
      omega
    refine sorted_dictH (X := X) (pins := pins) (σ := σ) (H := H1) (xs := storedAllH [] xs) hc hu I2 (beq_eq_false_iff_ne.mpr (Nat.ne_of_gt I1.big)) hD hlen2 ?_ ?_ fun ys hys p hp => ?_
    · rw [ek]
      exact hal
    · intro y hy
      rcases storedAll_mem xs [] hy with ⟨z, hz2, _, _⟩ | ⟨z, hz2, f1, f2⟩
      · simp at hz2
      · rw [← f1]
        have zk : z.1 ∈ xs.map (·.1) := List.mem_map.mpr ⟨z, hz2, rfl⟩
        rw [hkeys] at zk
        obtain ⟨p, hp, e⟩ := List.mem_map.mp zk
        rw [← e]
        exact hne p hp
    · have e1 : (ys.map fun y => V.ref y.2.1) = ((ys.map fun y => (y.2.1, y.1)).map fun q => V.ref q.1) := by rw [List.map_map]; rfl
      rw [e1]
      refine q (ys.map fun y => (y.2.1, y.1)) (fun z hz2 => ?_) ?_ p hp
      · obtain ⟨y, hy, rfl⟩ := List.mem_map.mp hz2
        rw [hys] at hy
        exact mem1 y ((List.mergeSort_perm _ _).mem_iff.mp hy)
      · rw [List.map_map, ← ek, hys]
        exact PySem.W.sort_maps (fun y : List Key × Addr × Value => y.1) fun _ _ _ _ => rfl
  case room =>
    show X.A.units + 1 + 1 < cLine
    omega
end
end SWL
set_option Elab.async false
set_option linter.all false
set_option maxRecDepth 100000
set_option maxHeartbeats 4000000
namespace SWL
open PySem PySem.Spec PyProof.Rows L2
/-! try: body / except C as n: suite, the exception itself being kept beyond the suite -/
def Kept (cls : Value) (d : Option Addr) (a : Addr) : Heap → Prop := fun h => ∃ oe, h.get? a = some oe ∧ Zc cls d oe ∧ ∃ vs, oe.data = .fields vs
def wKeep (K : PySem.W.Frag) (c : Value) (n i : Nat) (ts : Addr → Value → Option Addr → TS) (D : Ends) : WX := fun cls d σ H =>
  PySem.W.exmOne K cls c = some true ∧ (σ.length = n → ∀ a, H a = none → ts a cls d { nx := fun σ' H' => H' a = none → D.nx (σ'.set i none) (upd H' a (.ext (Kept cls d a))), rt := fun _ _ => False, bk := fun _ _ => False, ct := fun _ _ => False } (σ.set i (some (.ref a))) H)
section
variable {X : Cx} {pins : List (Addr × Obj)} {σ : L2.St} {H : Hp} {s : Shared}
theorem seen {a : Addr} {o : HO} (I : Inv X pins σ H s) (hn : H a = none) (hL : a ≠ X.env.locals) (h0 : a ∉ X.ex → X.s_0.heap.get? a = none) (hc : ∀ x c, X.env.cells.lookup x = some c → c ≠ a) (hp : ∀ p ∈ X.pn ++ pins, p.1 ≠ a)
    (new : ObjOk X.prog X.w (upd H a o) s.heap a o) : Inv X pins σ (upd H a o) s := by
  have ne : ∀ {b u}, H b = some u → b ≠ a := fun e => ne_of_none e hn
  have up : ∀ {b u}, H b = some u → upd H a o b = some u := fun e => by rw [upd_ne (ne e)]; exact e
  refine ⟨I.ok, I.os, I.bare, ⟨I.base.keep, I.base.slot, fun b u e n hx => ?_, I.base.there, fun b xs e => up (I.base.tups b xs e), fun b u xs e => up (I.base.frzs b u xs e), fun b ps e => ?_⟩, I.loc, I.cell, ?_, fun x c e => ?_, fun p hq => ?_, fun b u e => ?_, I.len⟩
  · have nb : b ≠ a := fun z => by rw [z, h0 (z ▸ hx)] at e; cases e
    rw [upd_ne nb]
    exact I.base.free b u e n hx
  · obtain ⟨m, q⟩ := I.base.tbls b ps e
    exact ⟨m, up q⟩
  · rw [upd_ne hL.symm]
    exact I.free
  · rw [upd_ne (hc x c e)]
    exact I.freeC x c e
  · obtain ⟨q1, q2, q3⟩ := I.pin p hq
    exact ⟨q1, by rw [upd_ne (hp p hq)]; exact q2, q3⟩
  · by_cases hb : b = a
    · subst hb
      rw [upd_same] at e
      cases e
      exact new
    · rw [upd_ne hb] at e
      exact (I.hok b u e).stay (fun c v _ q => q) (fun c q => up q) fun c xs q => up q
/-- the pin of the suite, as one of ours -/
theorem mine {a : Addr} {oe : Obj} (I : Inv (X.suite a ((a, oe) :: (X.pn ++ pins))) [] σ H s) (ok : X.Ok) : Inv X ((a, oe) :: pins) σ H s := by
  refine ⟨ok, I.os, I.bare, I.base, I.loc, I.cell, I.free, I.freeC, fun p hp => I.pin p ?_, I.hok, I.len⟩
  show p ∈ ((a, oe) :: (X.pn ++ pins)) ++ []
  rcases List.mem_append.mp hp with h | h
  · simp [h]
  · rcases List.mem_cons.mp h with h | h <;> simp [h]
theorem unpin {q : Addr × Obj} (I : Inv X (q :: pins) σ H s) : Inv X pins σ H s :=
  ⟨I.ok, I.os, I.bare, I.base, I.loc, I.cell, I.free, I.freeC, fun p hp => I.pin p (by rcases List.mem_append.mp hp with h | h <;> simp [h]), I.hok, I.len⟩
end
section
variable {X : Cx} {x n : Str} {c : Value} {i : Nat} {body suite : List Stmt} {b₀ : Stmt} {np pos pos' : Pos} {tb : WX → TS} {ts : Addr → Value → Option Addr → TS}
theorem ps_try_keep (hs : X.stack = X.env :: X.outer) (hf : X.env.frame = some X.env.locals) (hN : X.N.Nodup) (hi : X.N[i]? = some n) (hln : X.env.kindOf n = some .local) (hc : Names X x c)
    (hb : ∀ (W : WX) (pn : List (Addr × Obj)) (xe : Value → Shared → Prop), Takes (X.tr pn xe) W → PassesOwn (model X.prog X.w) X.A X.env xe → PSs (X.tr pn xe) body (tb W))
    (hsu : ∀ (a : Addr) (oe : Obj) (cls : Value) (d : Option Addr) (pn : List (Addr × Obj)), Zc cls d oe → (∃ vs, oe.data = .fields vs) → PSs (X.suite a ((a, oe) :: pn)) (b₀ :: suite) (ts a cls d)) :
    PS X (.Try body [.ExceptHandler (some (.Name x np)) (some n) (b₀ :: suite) pos'] [] [] pos) (fun D σ H => tb (wKeep X.K c X.N.length i ts D) D σ H) := by
  constructor
  intro pins s σ H D I h
  have ok := I.ok
  have hfr : X.A.frames = some (X.env :: X.outer) := ok.frames.trans (congrArg some hs)
  have back : ∀ {f : Flow} {s1 : Shared} {pn xe}, SP (X.tr (X.pn ++ pins) xe) pn D f s1 → SP X pins D f s1 := by
    intro f s1 pn xe q
    cases f with
    | ret u => obtain ⟨v, σ', H', J, z⟩ := q; exact ⟨v, σ', H', J.ofTry ok, z⟩
    | next => obtain ⟨σ', H', J, z⟩ := q; exact ⟨σ', H', J.ofTry ok, z⟩
    | brk => obtain ⟨σ', H', J, z⟩ := q; exact ⟨σ', H', J.ofTry ok, z⟩
    | cont => obtain ⟨σ', H', J, z⟩ := q; exact ⟨σ', H', J.ofTry ok, z⟩
  let hand : Value → Shared → Prop := fun e s₁ => wpAny (model X.prog X.w) X.A (noteFrame e X.env) (fun _ s₂ => wpAny (model X.prog X.w) X.A (setFlight e none) (fun _ s₃ =>
    wpAny (model X.prog X.w) X.A (handleBy e X.env [.ExceptHandler (some (.Name x np)) (some n) (b₀ :: suite) pos']) (SP X pins D) X.xe s₃) X.xe s₂) X.xe s₁
  have take : Takes (X.tr (X.pn ++ pins) hand) (wKeep X.K c X.N.length i ts D) := by
    intro u s' xx
    obtain ⟨a, B, sI, pins', σ', H', cls, d, rfl, J0, nb, up, sky, na, os, ag, hex, hts⟩ := xx
    have J := J0.ofTry ok
    have nb' : ∀ b o, sI.heap.get? b = some o → b ∉ frs (X.env :: X.outer) → B.get? b = some o := fun b o e z => nb b o e (by rw [show (X.tr (X.pn ++ pins) hand).stack = X.env :: X.outer from hs]; exact z)
    have sky' : Sky B (X.env :: X.outer) a (Zc cls d) X.env.locals s'.heap := by
      rw [← hs]
      exact sky
    show wpAny (model X.prog X.w) X.A (noteFrame (.ref a) X.env) _ _ _
    refine Sky.land Zc.steady hfr hf sky' fun h3 fl3 up3 => ?_
    obtain ⟨o3, v3, g3, z3, d3⟩ := fl3.there
    -- the exception's place is no frame's, and new
    have nfr : a ∉ frs (X.env :: X.outer) := fun hm => by
      obtain ⟨_, o', e', q⟩ := fl3.2.2.1.mem hm
      rw [g3] at e'
      cases e'
      exact q _ d3
    have nL : a ≠ X.env.locals := fun z => nfr (List.mem_filterMap.mpr ⟨X.env, List.mem_cons_self, hf.trans (congrArg some z.symm)⟩)
    have nF : a ∉ X.fs := fun hm => by
      obtain ⟨e, he, q⟩ := List.mem_filterMap.mp hm
      exact nfr (List.mem_filterMap.mpr ⟨e, List.mem_cons_of_mem _ he, q⟩)
    have fresh : ∀ o, sI.heap.get? a ≠ some o := fun o e => by
      have q := nb' a o e nfr
      rw [fl3.2.1] at q
      cases q
    have new0 : a ∉ X.ex → X.s_0.heap.get? a = none := by
      intro hx
      cases e : X.s_0.heap.get? a with
      | none => rfl
      | some o =>
        obtain ⟨o', e'⟩ := J.base.there a o e hx
        exact absurd e' (fresh o')
    have newC : ∀ y c, X.env.cells.lookup y = some c → c ≠ a := fun y c e z => by
      obtain ⟨v, oc, q, _⟩ := J.cell y c e
      rw [z] at q
      exact fresh _ q
    have newP : ∀ p ∈ X.pn ++ pins, p.1 ≠ a := fun p hp z => by
      have q := (J.pin p hp).1
      rw [z] at q
      exact fresh _ q
    have J3 : Inv X pins σ' H' { s' with heap := h3 } := J.landed nb fl3.1 (up.trans up3) os ag
    have S3 := J3.suite g3 d3 na nL nF
    refine wpAny_handleBy_cons (codeAny_handlers_test ?_) (by intro q; cases q)
    have LM := PySem.W.exm_one (M := model X.prog X.w) (J3.kIn) (show PySem.W.Looks (model X.prog X.w) h3 (typeOf (.ref a)) cls from fun A Q E s k q => wpAny_typeOf_ref (k _ _ g3) (by rw [z3.1]; exact q)) hex
    have test : ∀ {Q : Value → Shared → Prop} {E : Value → Shared → Prop}, Q c { s' with heap := h3 } → wpAny (model X.prog X.w) (X.A.mark (some (.ref a))) (eval (.Name x np) X.env) Q E { s' with heap := h3 } := by
      intro Q E q
      obtain ⟨hg, hdbg, hm | ⟨hm, hv, hnn⟩⟩ := hc
      · exact ld_glob (X := X.suite a ((a, o3) :: (X.pn ++ pins))) S3 hg hm q hdbg
      · exact ld_blt (X := X.suite a ((a, o3) :: (X.pn ++ pins))) S3 hg hm hv q hnn hdbg
    refine test (LM.here (codeAny_handlers_suite_as ?_))
    refine HandSPX.lands_againZ fl3 fun h4 fl4 up4 => ?_
    have J4 : Inv X pins σ' H' { s' with heap := h4 } := J.landed nb fl4.1 ((up.trans up3).trans up4) os ag
    obtain ⟨o4, v4, g4, z4, d4⟩ := fl4.there
    refine store_ok (X := X.suite a ((a, o4) :: (X.pn ++ pins))) (v := .ref a) (J4.suite g4 d4 na nL nF) hN hi (.inl hln) rfl (fun s5 S5 => ?_) (.inr hln)
    refine wpAny_mono ((hsu a o4 cls d (X.pn ++ pins) z4 ⟨_, d4⟩).run [] s5 _ H' _ S5 (hts J.len a na)) (fun f s6 q => ?_) fun _ _ z => z.elim
    cases f with
    | next =>
      obtain ⟨σ6, H6, S6, q6⟩ := q
      refine gone_ok (mine S6 ok) hN hi hln fun s7 J7 => ?_
      have hn : H6 a = none := (J7.pin (a, o4) (List.mem_append_right _ List.mem_cons_self)).2.1
      have g7 := (J7.pin (a, o4) (List.mem_append_right _ List.mem_cons_self)).1
      exact ⟨_, _, seen (unpin J7) hn nL new0 newC newP (show ObjOk X.prog X.w _ _ _ (.ext (Kept cls d a)) from ⟨⟨o4, g7, z4, _, d4⟩, ⟨_, g7⟩, fun h1 h2 ⟨oe, e1, e2⟩ hk => ⟨oe, hk _ e1, e2⟩⟩), q6 hn⟩
    | brk =>
      obtain ⟨_, _, _, z⟩ := q
      exact z.elim
    | cont =>
      obtain ⟨_, _, _, z⟩ := q
      exact z.elim
    | ret u =>
      obtain ⟨_, _, _, _, _, z⟩ := q
      exact z.elim
  refine wpAny_Try_except (wpAny_mono ((hb _ (X.pn ++ pins) hand take PassesOwn.looking).run [] s σ H D (I.toTry _) h) (fun f s1 q => ?_) fun e s1 he => he)
  have q' : SP X pins D f s1 := back q
  cases f with
  | next => exact wpAny_execs_nil q'
  | ret u => exact q'
  | brk => exact q'
  | cont => exact q'
/-- isinstance(e, c), e an exception that was kept -/
def rIsKept (K : PySem.W.Frag) : List V → Hp → VK → Prop := fun xs H Q => ∃ (a D : Addr) (c : V) (cv : Value) (b : Bool), xs = [.ref a, c] ∧ H a = some (.ext (Kept (.ref D) none a)) ∧ ExcC K D ∧ (∀ u, RelV c u → u = cv) ∧ PySem.W.kitOne K (.ref D) cv = some b ∧ Q (.bl b) H
theorem call_isKept : CallR X (.builtin "isinstance") (rIsKept X.K) := by
  intro pins s σ H xs us Q I r h
  obtain ⟨a, D, c, cv, b, rfl, ha, C, hcv, e, q⟩ := h
  cases r with
  | cons rx rr =>
    cases rr with
    | cons rt rr =>
      cases rr
      cases rx
      cases hcv _ rt
      obtain ⟨⟨oe, hget, hz, vs, hv⟩, _, _⟩ := (show ObjOk X.prog X.w H s.heap a (.ext (Kept (.ref D) none a)) from I.hok _ _ ha)
      have J : PySem.W.InstAt s.heap a oe D none := by
        obtain ⟨oc, od, oda, osl⟩ := oe
        obtain ⟨h1, h2⟩ := hz
        dsimp only at h1 h2 hv
        subst h1 h2 hv
        exact ⟨hget, rfl, rfl, trivial⟩
      refine PySem.W.kia_one (PySem.W.handS_kitx_exc C.hg C.hk C.hs C.hd C.ha C.hn C.ht C.hm) I.kIn J e (fun z => nomatch z) fun tk => ?_
      exact ⟨.bl b, H, I.kept (t' := tk) fun _ _ z => z, rfl, q⟩
end
end SWL
set_option Elab.async false
set_option linter.all false
set_option maxRecDepth 100000
set_option maxHeartbeats 4000000
namespace SWL
open PySem PySem.Spec PyProof.Rows L2 LamX
/-! the def that calls what it got and hands back the exception that it caught -/
def TCaught (K : PySem.W.Frag) (CS : Addr) : (XK → Hp → VK → Prop) → Hp → VK → Prop := fun tl H Q =>
  tl (fun cls d H' => PySem.W.exmOne K cls (.ref CS) = some true ∧ ∀ a, H' a = none → Q (.ref a) (upd H' a (.ext (Kept cls d a)))) H (fun _ H' => ∃ v, (some (some V.non) : Option (Option V)) = some (some v) ∧ Q v H')
section
variable {X : Cx}
theorem caught_gives {x a fnd err en q : Str} {sg : Scope} {g CS : Addr} {cdg : Value} {p1 p2 p3 p4 p5 p6 p7 p8 p9 p10 p11 p12 p13 p14 : Pos} {j : Nat}
    (hge : sg.names.lookup en = some .globalImplicit) (hme : X.mg en = some (.ref CS)) (hde : (en == ("__debug__" : Str)) = false)
    (hlf : sg.names.lookup fnd = some .local) (hle : sg.names.lookup err = some .local)
    (hN : [a, fnd, err].Nodup) (df : (fnd == ("__debug__" : Str)) = false) (cf : (fnd == ("__classdict__" : Str)) = false) (de : (err == ("__debug__" : Str)) = false) (ce : (err == ("__classdict__" : Str)) = false) :
    GivesTo X [a, fnd, err] x sg g cdg [.Assign [.Name fnd p1] (.Constant .none j p2) p3, .Try [.Expr (.Call (.Name a p4) [] [] p5) p6] [.ExceptHandler (some (.Name en p7)) (some err) [.Assign [.Name fnd p8] (.Name err p9) p10] p11] [] [] p12, .Return (some (.Name fnd p13)) p14] a q (TCaught X.K CS) := by
  intro f c' s H Q tl act hc h
  have hgl : Gl (cxOf C8.CX0 X.prog X.w X.K X.mg X.base [a, fnd, err] x sg g cdg X.A X.stack s H C8.E0).nox en := hge
  have la : Loc sg fnd := .inl hlf
  have le : Loc sg err := .inl hle
  refine ⟨_, pss_cons (ps_set (X := (cxOf C8.CX0 X.prog X.w X.K X.mg X.base [a, fnd, err] x sg g cdg X.A X.stack s H C8.E0).nox) (i := 1) hN rfl la pe_non (hf := .inr hlf))
    (pss_cons (ps_try_keep (X := (cxOf C8.CX0 X.prog X.w X.K X.mg X.base [a, fnd, err] x sg g cdg X.A X.stack s H C8.E0).nox) (c := .ref CS) (i := 2)
      (tb := fun W D σ H => ∃ Ech : XK, (∀ cls d σ' H', Ech cls d H' → W cls d σ' H') ∧ σ[0]? = some (some (.ref f)) ∧ H c' = some (CodeO c' q) ∧ tl Ech H fun _ H' => D.nx σ H')
      rfl rfl hN rfl hle ⟨hgl, hde, .inl hme⟩ (fun W pn xe tk _ => ?_) (fun a' oe cls d pn _ _ => pss_one (ps_set (i := 1) hN rfl la (pe_var (i := 2) rfl (.inl hle) de ce) (hf := .inr hlf))))
    (pss_one (ps_ret (pe_var (i := 1) rfl (.inl hlf) df cf)))), ?_⟩
  · refine ⟨fun pins s' σ H' D I h' => ?_⟩
    obtain ⟨Ech, hW, h1, h2, h3⟩ := h'
    have hp := act W pn xe Ech p4 p5 tk hW
    exact (pss_one (ps_expr (pos := p6) hp (by rfl))).run pins s' σ H' D I ⟨h1, h2, h3⟩
  · refine ⟨fun cls d H' => PySem.W.exmOne X.K cls (.ref CS) = some true ∧ ∀ a, H' a = none → Q (.ref a) (upd H' a (.ext (Kept cls d a))), fun cls d σ' H' ⟨e1, e2⟩ => ⟨e1, fun hl a' na => ?_⟩, rfl, hc, h⟩
    obtain ⟨s0, s1, s2, rfl⟩ : ∃ s0 s1 s2, σ' = [s0, s1, s2] := by
      match σ', hl with
      | [x, y, z], _ => exact ⟨x, y, z, rfl⟩
    exact ⟨_, rfl, fun na' => ⟨_, rfl, e2 a' na'⟩⟩
end
end SWL
set_option Elab.async false
set_option linter.all false
set_option maxRecDepth 100000
set_option maxHeartbeats 4000000
namespace SWL
open PySem PySem.Spec PyProof.Rows L2 LamX
/-! defs that ask that no guard is in hand (for repr): their promises, their calls, and the end of a law row with them -/
structure FnG (P : Program) (w : World) (K : PySem.W.Frag) (mg : Str → Option Value) (base : Heap) (k : Nat) (f : Addr) (fd : FuncData) (ps : List Str) (sp : Sp) : Prop where
  len : ∀ vs H Q E, sp vs H Q E → vs.length = ps.length
  run : ∀ (A : Around) (outer : List Env) (s : Shared) (H : Hp) (args : Args) (us : List Value) (vs : List V) (Q : VK) (E : XK), A.guards = some [] → Room k A → Env0 P w K mg base A outer s H → BindsTo s fd args (ps.zip us) → Vals vs us → sp vs H Q E →
    codeAny (model P w) A (.call (.ref f) args) (CR CX0 outer P w H s Q E) s
theorem guards_deeper {A : Around} (env : Env) (h : A.guards = some []) : (A.deeper env).guards = some [] := h
section
variable {P : Program} {w : World} {K : PySem.W.Frag} {mg : Str → Option Value} {base : Heap}
theorem fng_ok {x qual : Str} {st : Stmt} {f : Addr} {fd : FuncData} {N ps : List Str} {k : Nat} {sp : Sp} (F : L2.Fun K x qual st f fd) (S : FnScope N ps (defScope st)) (len : ∀ vs H Q E, sp vs H Q E → vs.length = ps.length)
    (hbody : ∀ (cdv : Value) (A : Around) (outer : List Env) (s : Shared) (H : Hp) (vs : List V) (Q : VK) (E : XK), A.guards = some [] → PySem.W.codeIn K cdv qual = true → Room k (A.deeper (envOfC qual (defScope st) s.heap.objs.size f cdv)) → sp vs H Q E →
      ∃ t, PSs (cxOf CX0 P w K mg base N qual (defScope st) f cdv A outer s H E).nox (defBody st) t ∧ t { nx := fun _ H' => Q .non H', rt := Q } (L2.start N vs) H) : FnG P w K mg base (k + 1) f fd ps sp := by
  obtain ⟨oc, od, kV, doc, pm, an, cdv, ct, osl, rfl, lk, hcd⟩ := F.ex
  refine ⟨len, fun A outer s H args us vs Q E gA hr e0 hb r hsp => ?_⟩
  refine run_ofS lk hcd S hr e0 hb r (len _ _ _ _ hsp) fun hr2 => ?_
  obtain ⟨t, h, q⟩ := hbody cdv A outer s H vs Q E gA hcd hr2 hsp
  exact ⟨t, h.nox, q⟩
end
section
variable {X : Cx} {k : Nat} {f : Addr} {fd : FuncData} {ps : List Str} {sp : Sp} {E : XK} {x : Str} {p pos : Pos} {e : Expr} {es : List Expr} {t : TA}
theorem pe_callG (gd : X.A.guards = some []) (F : FnG X.prog X.w X.K X.mg X.base k f fd ps sp) (hr : Room k X.A) (hg : Gl X x) (hm : X.mg x = some (.ref f)) (hk : PySem.W.keepIn X.K (.ref f) = true) (hb : Binds X.K fd ps [])
    (ha : PA X (e :: es) t) (hdb : (x == ("__debug__" : Str)) = false := by decide) (he : starEach (e :: es) X.env = (false, eval e X.env) :: starEach es X.env := by rfl) (hpl : (backTo pos (starEach es X.env)).any (·.1) = false := by rfl) :
    PE X (.Call (.Name x p) (e :: es) [] pos) (tCall sp [] E0 t) := by
  constructor
  intro pins s σ H Q I h
  refine wpAny_Call_Name_kw (ld_glob I hg hm (PySem.W.callWith_K (h₀ := X.base) I.ok.mod.kin hk (thn (ha.run pos pins s σ H _ I h) fun us s1 ⟨vs, H1, I1, r, q⟩ => ⟨I1.kIn, ?_⟩) he hpl) hdb)
  have q : sp vs H1 Q E0 := by
    have z : sp (vs ++ []) H1 Q E0 := q
    rw [List.append_nil] at z
    exact z
  have hl : us.length = ps.length := r.length.symm.trans (F.len _ _ _ _ q)
  have hb1 := hb s1 us I1.kIn (by rw [List.append_nil]; exact hl)
  rw [List.append_nil] at hb1
  refine wpAny_call (codeAny_mono (F.run X.A X.stack s1 H1 ⟨us, []⟩ us vs Q E0 gd hr I1.env0 hb1 r q) fun r s' hq => ?_)
  match r, hq with
  | .error _, z => exact False.elim z
  | .ok (.ret u), z => exact I1.after z
  | .ok .next, z => exact False.elim z
  | .ok .brk, z => exact False.elim z
  | .ok .cont, z => exact False.elim z
end
theorem vals_rev : ∀ {xs : List V} {us : List Value}, Vals xs us → Vals xs.reverse us.reverse
  | _, _, .nil => .nil
  | _, _, .cons h t => by
    rw [List.reverse_cons, List.reverse_cons]
    exact (vals_rev t).append (.cons h .nil)
/-! the end -/
/-- what is tracked at the start: the tables, the script -/
def hp0 (T : List Addr) (a : Addr) (own : Bool) (o : Obj) (xs : List V) : Hp := fun b => if b ∈ T then some (.tbl #[]) else if b = a ∧ own = true then some (.frz o (.lst xs)) else none
theorem hp0_tab {T : List Addr} {a : Addr} {own : Bool} {o : Obj} {xs : List V} {b : Addr} (h : b ∈ T) : hp0 T a own o xs b = some (.tbl #[]) := if_pos h
theorem hp0_cases {T : List Addr} {a : Addr} {own : Bool} {o : Obj} {xs : List V} (b : Addr) : (b ∈ T ∧ hp0 T a own o xs b = some (.tbl #[])) ∨ (b ∉ T ∧ b = a ∧ own = true ∧ hp0 T a own o xs b = some (.frz o (.lst xs))) ∨ (b ∉ T ∧ hp0 T a own o xs b = none) := by
  by_cases h : b ∈ T
  · exact .inl ⟨h, if_pos h⟩
  · by_cases h2 : b = a ∧ own = true
    · exact .inr (.inl ⟨h, h2.1, h2.2, (if_neg h).trans (if_pos h2)⟩)
    · exact .inr (.inr ⟨h, (if_neg h).trans (if_neg h2)⟩)
/-- what is known of the law's promise at the head's heap -/
def LawG (l : PySem.W.OpenLaw) (w : World) (K : PySem.W.Frag) (k n : Nat) (x : Str) (mg : Str → Option Value) (fa : Addr) (h : Heap) : Prop :=
  ∃ (fd : FuncData) (cs : List (Addr × Addr)) (sp : Sp), (∀ p ∈ cs, h.get? p.2 = some { cls := .none, data := .fields #[] }) ∧ (∀ p ∈ cs, K.lookup p.2 = none) ∧ (∀ p ∈ cs, PySem.W.CodeHd h p.1 p.2) ∧ (∀ (s : Shared) (u : Value), BindsTo s fd ⟨[u], []⟩ [(x, u)]) ∧
    (∀ (H : Hp) (a : Addr) (ns : List Int), ns.length ≤ n → (∀ z ∈ ns, Builtin.Int.intBits z ≤ 1048576) → (∀ p ∈ cs, H p.2 = some (.tbl #[])) → SqL K H a (ns.map V.int) → sp [.ref a] H (fun v _ => v = .bl true) fun _ _ _ => False) ∧
    ∀ base : Heap, K.In base → base.Ns mainGlobals mg → (∀ p ∈ cs, TabB base mg p.1 p.2) → FnG l.prog w K mg base k fa fd [x] sp
theorem law_callG {P : Program} {w : World} {K : PySem.W.Frag} {mg mb : Str → Option Value} {k : Nat} {fa a : Addr} {cs : List (Addr × Addr)} {fd : FuncData} {x : Str} {sp : Sp} {s : Shared} {vs : List Value} {ns : List Int}
    (KX : K.In s.heap) (hns : s.heap.Ns mainGlobals mg) (hb : s.heap.Ns builtinsNs mb) (hbb : ∀ x : Str, x ≠ "__name__" → mb x = bootBuiltins x) (hlim : s.heap.NoLimit) (hg : s.gens = #[])
    (hT : ∀ p ∈ cs, s.heap.get? p.2 = some { cls := .none, data := .fields #[] }) (nT : ∀ p ∈ cs, K.lookup p.2 = none) (C : ∀ p ∈ cs, PySem.W.CodeHd s.heap p.1 p.2)
    (hbm : ∃ (bm : Addr) (ob : Obj), mg "__builtins__" = some (.ref bm) ∧ bm ≠ builtinsNs ∧ s.heap.get? bm = some ob ∧ ob.cls = .type "module" ∧ ob.dict = some builtinsNs ∧ ob.data = .plain)
    (ha : s.heap.get? a = some { cls := .type "list", data := .seq vs.toArray }) (hi : IntsAre vs ns) (hl : ns.length ≤ sizeLine) (hr : Room k callerA)
    (F : ∀ base : Heap, K.In base → base.Ns mainGlobals mg → (∀ p ∈ cs, TabB base mg p.1 p.2) → FnG P w K mg base k fa fd [x] sp) (hbind : ∀ (s : Shared) (u : Value), BindsTo s fd ⟨[u], []⟩ [(x, u)])
    (hsp : ∀ H : Hp, (∀ p ∈ cs, H p.2 = some (.tbl #[])) → SqL K H a (ns.map V.int) → sp [.ref a] H (fun v _ => v = .bl true) fun _ _ _ => False) :
    codeAny (model P w) callerA (.call (.ref fa) ⟨[.ref a], []⟩) (fun r s' => r = .ok (.ret (.bool true)) ∧ OldK s.heap s'.heap ∧ s'.os = s.os ∧ AllBare s'.gens) s := by
  generalize hTs : cs.map (·.2) = T
  have inT : ∀ {p}, p ∈ cs → p.2 ∈ T := fun hp => by rw [← hTs]; exact List.mem_map.mpr ⟨_, hp, rfl⟩
  have ofT : ∀ {b}, b ∈ T → ∃ p ∈ cs, p.2 = b := fun hb => by rw [← hTs] at hb; exact List.mem_map.mp hb
  have atT : ∀ {b}, b ∈ T → s.heap.get? b = some { cls := .none, data := .fields #[] } := fun hb => by
    obtain ⟨p, hp, e⟩ := ofT hb
    rw [← e]
    exact hT p hp
  let os : Obj := { cls := .type "list", data := .seq vs.toArray }
  let own : Bool := (K.lookup a).isNone
  let H : Hp := hp0 T a own os (ns.map V.int)
  have aT : a ∉ T := fun z => by
    have q := (atT z).symm.trans ha
    cases q
  have rv := vals_ints hi
  have hHT : ∀ p ∈ cs, H p.2 = some (.tbl #[]) := fun p hp => hp0_tab (inT hp)
  have seq : SqL K H a (ns.map V.int) := by
    cases e : K.lookup a with
    | some o =>
      have z := (KX a o e).symm.trans ha
      cases z
      exact .inr ⟨_, vs.toArray, _, e, rfl, rfl, rfl, by rw [List.size_toArray, hi.length]; exact hl, by simpa using rv⟩
    | none =>
      have hown : own = true := by show (K.lookup a).isNone = true; rw [e]; rfl
      exact .inl (.inr ⟨os, (if_neg aT).trans (if_pos ⟨rfl, hown⟩)⟩)
  have hok : HOk P w H s.heap := fun b u e => by
    rcases hp0_cases (T := T) (a := a) (own := own) (o := os) (xs := ns.map V.int) b with ⟨h1, h2⟩ | ⟨_, rfl, _, h2⟩ | ⟨_, h2⟩
    · cases (show H b = some (.tbl #[]) from h2).symm.trans e
      exact atT h1
    · cases (show H b = _ from h2).symm.trans e
      exact ⟨ha, by rw [List.length_map]; exact hl, vs, _, rv, ha⟩
    · cases (show H b = none from h2).symm.trans e
  -- what is no list and no empty table is untracked
  have un0 : ∀ {b : Addr} {o : Obj}, s.heap.get? b = some o → (∀ vs n, o.data ≠ .seq vs n) → o.data ≠ .fields #[] → H b = none := fun {b o} e h1 h2 => by
    rcases hp0_cases (T := T) (a := a) (own := own) (o := os) (xs := ns.map V.int) b with ⟨q1, _⟩ | ⟨_, rfl, _, _⟩ | ⟨_, q⟩
    · cases e.symm.trans (atT q1)
      exact absurd rfl h2
    · cases e.symm.trans ha
      exact absurd rfl (h1 _ _)
    · exact q
  have hid : ∀ {b o}, s.heap.get? b = some o → H b = none → (hidT s.heap H).get? b = some o := fun e n => hidT_get e n
  have hidNs : ∀ {b m}, s.heap.Ns b m → (hidT s.heap H).Ns b m := fun ⟨o, es, ep, e, d, r⟩ => ⟨o, es, ep, hid e (un0 e (fun _ _ z => by rw [d] at z; cases z) fun z => by rw [d] at z; cases z), d, r⟩
  have hKb : K.In (hidT s.heap H) := fun b o e => hid (KX b o e) (by
    rcases hp0_cases (T := T) (a := a) (own := own) (o := os) (xs := ns.map V.int) b with ⟨q1, _⟩ | ⟨_, rfl, q2, _⟩ | ⟨_, q⟩
    · obtain ⟨p, hp, rfl⟩ := ofT q1
      cases (nT p hp).symm.trans e
    · have q3 : (K.lookup b).isNone = true := q2
      rw [e] at q3
      cases q3
    · exact q)
  have hM : L2.Mod K mg (hidT s.heap H) := by
    obtain ⟨mc, h1, h2⟩ := hlim
    exact ⟨hKb, hidNs hns, ⟨mb, hidNs hb, hbb⟩, mc, hidNs h1, h2⟩
  have TB : ∀ p ∈ cs, TabB (hidT s.heap H) mg p.1 p.2 := fun p hp => by
    have tp := hT p hp
    refine ⟨?_, ?_, fun z => ?_⟩
    · obtain ⟨o, us, file, tf, flags, tg, inF, text, tt, e1, r1, r2, r3, rest⟩ := C p hp
      refine ⟨o, us, file, tf, flags, tg, inF, text, tt, hid e1 (un0 e1 (fun _ _ z => by rw [r2] at z; cases z) fun z => ?_), r1, r2, r3, rest⟩
      rw [r2] at z
      cases z
      simp at r3
    · obtain ⟨bm, ob, b1, b2, b3, b4, b5, b6⟩ := hbm
      refine ⟨bm, ob, b1, b2, fun q => ?_, fun q => ?_, hid b3 (un0 b3 (fun _ _ z => by rw [b6] at z; cases z) fun z => by rw [b6] at z; cases z), b4, b5, b6⟩
      · obtain ⟨o, es, ep, e, hd, _⟩ := hns
        rw [q] at b3
        cases e.symm.trans b3
        cases hd.symm.trans b6
      · rw [q] at b3
        cases tp.symm.trans b3
        cases b6
    · obtain ⟨o, es, ep, e, hd, _⟩ := hns
      rw [z] at e
      cases tp.symm.trans e
      cases hd
  have e0 : Env0 P w K mg (hidT s.heap H) callerA [] s H := ⟨rfl, hM, fun b o e => of_hidT e, Nat.le_of_eq (hidT_size _ _), trivial, fun b hb => absurd (show b ∈ ([] : List Addr) from hb) (by simp), hok, .of_eq hg⟩
  refine codeAny_mono ((F _ hKb (hidNs hns) TB).run callerA [] s H ⟨[.ref a], []⟩ [.ref a] [.ref a] _ _ rfl hr e0 (hbind s (.ref a)) (.cons rfl .nil) (hsp H hHT seq)) fun r s' h => ?_
  match r, h with
  | .error _, z => exact False.elim z
  | .ok .next, z => exact False.elim z
  | .ok .brk, z => exact False.elim z
  | .ok .cont, z => exact False.elim z
  | .ok (.ret u), z =>
    obtain ⟨v, H', eos, bare, un, hok', rv', q⟩ := z
    cases (show v = .bl true from q)
    cases (show u = Value.bool true from rv')
    have same : ∀ b o, b ∉ T → s.heap.get? b = some o → s'.heap.get? b = some o := fun b o nb e => by
      rcases hp0_cases (T := T) (a := a) (own := own) (o := os) (xs := ns.map V.int) b with ⟨q1, _⟩ | ⟨_, rfl, _, q1⟩ | ⟨_, q1⟩
      · exact absurd q1 nb
      · have z2 := (hok' b _ (un.frzs b _ _ q1)).1
        cases e.symm.trans ha
        exact z2
      · exact un.keep b o e q1 (fun z => absurd (show b ∈ ([] : List Addr) from z) (by simp)) (by simp)
    have grown : ∀ p ∈ cs, ∃ more : Array Value, s'.heap.get? p.2 = some { cls := .none, data := .fields more } := fun p hp => by
      obtain ⟨more, z⟩ := un.tbls p.2 #[] (hHT p hp)
      exact ⟨_, hok' p.2 _ z⟩
    refine ⟨rfl, ⟨fun b o e => ?_, fun b o e => ?_⟩, eos, bare⟩
    · by_cases hb : b ∈ T
      · obtain ⟨p, hp, rfl⟩ := ofT hb
        obtain ⟨more, hm⟩ := grown p hp
        cases e.symm.trans (hT p hp)
        exact .inr (.inl ⟨((C p hp).tab (hT p hp)).isCodeTable, rfl, #[], more, rfl, by rw [Array.empty_append]; exact hm⟩)
      · exact .inl (same b o hb e)
    · by_cases hb : b ∈ T
      · obtain ⟨p, hp, rfl⟩ := ofT hb
        obtain ⟨more, hm⟩ := grown p hp
        exact ⟨_, hm⟩
      · exact ⟨o, same b o hb e⟩
theorem walk_ofG {l : PySem.W.OpenLaw} {n k : Nat} {q : Program} {loose : List Str} {XP : (Str → Option Value) → Heap → Prop} {YP : World → Heap → Prop} {d : DefRec} {K : Params → PySem.W.Frag} {x : Str}
    (hn : l.most = some n) (hn2 : n ≤ sizeLine) (hdf : d.params.defaults = []) (hr : Room k callerA) (hY : ∀ (w : World) (h : Heap), YP w h → (K w.params).In h)
    (F : ∀ (w : World) (mg : Str → Option Value) (fa : Addr) (h : Heap) (lo : List Str) (mean : ExcName → Option Value) (mb : Str → Option Value), Top q lo mean mg mb h → YP w h → (K w.params).In h → h.Ns mainGlobals mg → mg d.name = some (.ref fa) → LawG l w (K w.params) k n x mg fa h) :
    PySem.W.WalkO q loose XP YP l.row.toRowW d [] (fun f vs => PySem.call f vs) := by
  refine Att.attach_callB hn hdf fun w s₀ s₁ mg mb fa o pm cd doc a vs ns G Y ho hd hcd hmg hobj hints hlen hbits hg => ?_
  obtain ⟨fd, cs, sp, hT, nT, C, hb, hsp, hF⟩ := F w mg fa _ _ _ _ G.T Y (hY w _ Y) G.T.g hmg
  exact law_callG (hY w _ Y) G.T.g G.T.b G.T.builtins G.T.nolimit hg hT nT C G.T.bmain hobj hints (Nat.le_trans hlen hn2) hr hF hb fun H hH hS => hsp H a ns hlen hbits hH hS
end SWL
set_option Elab.async false
set_option linter.all false
set_option maxRecDepth 100000
set_option maxHeartbeats 4000000
namespace SWL
open PySem PySem.Spec PyProof.Rows L2 LamX
/-! f(k = v, ..) without a positional value; comprehensions whose turns only grow the heap -/
section
variable {X : Cx} {CX : CXT} {k : Nat} {f : Addr} {fd : FuncData} {ps ks : List Str} {sp : Sp} {E : XK} {x : Str} {p pos : Pos} {kws : List Keyword} {tk : TA} {g : List Value → List Value → List Value} {gV : List V → List V → List V}
def tKw (sp : Sp) (gV : List V → List V → List V) (E : XK) (tk : TA) : TE := fun σ H Q => tk σ H fun zs H2 => sp (gV [] zs) H2 Q E
theorem pe_kwCall (F : FnOk X.prog X.w X.K X.mg X.base CX k f fd ps sp) (hr : Room k X.A) (hg : Gl X x) (hm : X.mg x = some (.ref f)) (hk : PySem.W.keepIn X.K (.ref f) = true) (hb : KBinds X.K fd ps ks g gV) (hx : Passes CX X E)
    (hkw : PK X kws tk) (hall : (backToKw pos (keywordEach kws X.env)).all (·.1.isSome) = true := by rfl) (hks : (backToKw pos (keywordEach kws X.env)).filterMap (·.1) = ks := by rfl)
    (hdb : (x == ("__debug__" : Str)) = false := by decide)
    (hpl : ((backTo pos (starEach [] X.env)).any (·.1) || (backToKw pos (keywordEach kws X.env)).any (·.1.isNone)) = false := by rfl) :
    PE X (.Call (.Name x p) [] kws pos) (tKw sp gV E tk) := by
  constructor
  intro pins s σ H Q I h
  refine wpAny_Call_Name_kw (ld_glob I hg hm (PySem.W.callWith_KW0 (h₀ := X.base) I.ok.mod.kin hk hall ?_ hpl) hdb)
  refine thn (hkw.run pos pins s σ H _ I h) fun ws s2 ⟨zs, H2, I2, rz, q2⟩ => ⟨I2.kIn, ?_⟩
  rw [hks]
  exact run_fnk (us := []) (vs := []) F hr hb hx I2 .nil rz q2
end
theorem take_snoc {α : Type} : ∀ {l : List α} {i : Nat} {x : α}, l[i]? = some x → l.take (i + 1) = l.take i ++ [x] := fun {l i x} h => by rw [List.take_add_one, h]; rfl
theorem compF {J : It} {G : Hp → Prop} {xs : List V} (w : Walk J xs.length G (YAt xs)) (p : V → Bool) (f : V → V) {i : Nat} {tt : TT} {te : TE} {σ : L2.St} {H1 : Hp} {D : Addr} {Qd : Hp → Prop} (nD : H1 D = none) (hG : ∀ H, Grows H1 H → G H) (hz : (xs.filter p).length ≤ sizeLine)
    (htt : ∀ x H k, x ∈ xs → Grows H1 H → (∀ H', Grows H H' → k (p x) H') → tt ((σ.set i none).set i (some x)) H k)
    (hte : ∀ x H Q, x ∈ xs → p x = true → Grows H1 H → (∀ H', Grows H H' → Q (f x) H') → te ((σ.set i none).set i (some x)) H Q)
    (hd : ∀ H, Grows H1 H → H D = some (.lst ((xs.filter p).map f)) → Qd H) :
    ∃ W : Nat → Nat → Hp → Prop, (∃ m, W 0 m (upd H1 D (.lst []))) ∧ ∀ n m H, W n m H →
      (J.stop n H ∧ Qd H) ∨ (J.go n H ∧ ∃ Nx : Hp → Prop, (∀ H', Nx H' → ∃ m', m' < m ∧ W (n + 1) m' H') ∧ ∀ x H', J.yld n H x H' → gName i x (wipe σ [i]) H' fun σ2 H2 => wipe σ2 [i] = wipe σ [i] ∧ tt σ2 H2 fun b H3 =>
        if b = true then te σ2 H3 fun y H4 => ∃ acc, H4 D = some (.lst acc) ∧ acc.length < sizeLine ∧ Nx (upd H4 D (.lst (acc ++ [y]))) else Nx H3) := by
  have gU : ∀ {H : Hp} {o : HO}, Grows H1 H → Grows H1 (upd H D o) := fun g b u e => by
    rw [upd_ne (ne_of_none e nD)]
    exact g b u e
  refine lc_it w (fun n H => Grows H1 H ∧ H D = some (.lst (((xs.take n).filter p).map f))) ⟨Grows.new nD, by rw [upd_same]; rfl⟩ (fun n H _ h => hG H h.1) (fun n x H H' hn ⟨g, hD⟩ ⟨e, hx⟩ => ?_) fun H ⟨g, hD⟩ => hd H g (by rw [List.take_length] at hD; exact hD)
  subst e
  have hm : x ∈ xs := List.mem_of_getElem? hx
  refine ⟨by show (((σ.set i none).set i (some x)).set i none) = σ.set i none; simp, ?_⟩
  refine htt x H' _ hm g fun H2 g2 => ?_
  have et : ((xs.take (n + 1)).filter p).map f = ((xs.take n).filter p).map f ++ (if p x = true then [f x] else []) := by
    rw [take_snoc hx, List.filter_append, List.map_append]
    by_cases hp : p x = true <;> simp [hp]
  by_cases hp : p x = true
  · rw [if_pos hp]
    refine hte x H2 _ hm hp (g.trans g2) fun H3 g3 => ?_
    refine ⟨_, g3 _ _ (g2 _ _ hD), ?_, gU ((g.trans g2).trans g3), ?_⟩
    · rw [List.length_map]
      have hs : ((xs.take (n + 1)).filter p).length ≤ (xs.filter p).length := ((List.take_sublist (n + 1) xs).filter p).length_le
      rw [take_snoc hx, List.filter_append, List.length_append] at hs
      have h1 : ([x].filter p).length = 1 := by simp [hp]
      omega
    · rw [upd_same, et, if_pos hp]
  · rw [if_neg hp]
    refine ⟨g.trans g2, ?_⟩
    rw [et, if_neg hp, List.append_nil]
    exact g2 _ _ hD
theorem comp {J : It} {G : Hp → Prop} {xs : List V} (w : Walk J xs.length G (YAt xs)) (p : V → Bool) (f : V → V) {i : Nat} {tt : TT} {te : TE} {σ : L2.St} {H1 : Hp} {D : Addr} {Qd : Hp → Prop} (nD : H1 D = none) (hG : ∀ H, Grows H1 H → G H) (hz : xs.length ≤ sizeLine)
    (htt : ∀ x H k, x ∈ xs → Grows H1 H → (∀ H', Grows H H' → k (p x) H') → tt ((σ.set i none).set i (some x)) H k)
    (hte : ∀ x H Q, x ∈ xs → p x = true → Grows H1 H → (∀ H', Grows H H' → Q (f x) H') → te ((σ.set i none).set i (some x)) H Q)
    (hd : ∀ H, Grows H1 H → H D = some (.lst ((xs.filter p).map f)) → Qd H) :
    ∃ W : Nat → Nat → Hp → Prop, (∃ m, W 0 m (upd H1 D (.lst []))) ∧ ∀ n m H, W n m H →
      (J.stop n H ∧ Qd H) ∨ (J.go n H ∧ ∃ Nx : Hp → Prop, (∀ H', Nx H' → ∃ m', m' < m ∧ W (n + 1) m' H') ∧ ∀ x H', J.yld n H x H' → gName i x (wipe σ [i]) H' fun σ2 H2 => wipe σ2 [i] = wipe σ [i] ∧ tt σ2 H2 fun b H3 =>
        if b = true then te σ2 H3 fun y H4 => ∃ acc, H4 D = some (.lst acc) ∧ acc.length < sizeLine ∧ Nx (upd H4 D (.lst (acc ++ [y]))) else Nx H3) :=
  compF w p f nD hG (Nat.le_trans (List.length_filter_le p xs) hz) htt hte hd
/-- the signs of a text -/
theorem walk_signs (z : Str) : Walk (Its z) (signsV z).length (fun _ => True) (YAt (signsV z)) := by
  have hn : (signsV z).length = z.cps.size := by unfold signsV; simp
  rw [hn]
  refine walk_str.mono (fun _ _ => trivial) fun i H x H' hi _ ⟨e, c, hc, ex⟩ => ⟨e, ?_⟩
  unfold signsV
  rw [List.getElem?_map, Array.getElem?_toList, hc, ex]
  rfl
theorem signs_len (z : Str) : (signsV z).length = z.length := by
  unfold signsV
  rw [List.length_map, Array.length_toList]
  rfl
theorem signs_mem {z : Str} {x : V} (h : x ∈ signsV z) : ∃ c, c ∈ z.cps.toList ∧ x = .str ⟨#[c]⟩ := by
  obtain ⟨c, hc, rfl⟩ := List.mem_map.mp h
  exact ⟨c, hc, rfl⟩
theorem filter_yes {α : Type} (l : List α) : l.filter (fun _ => true) = l := List.filter_eq_self.mpr fun _ _ => rfl
end SWL
set_option Elab.async false
set_option linter.all false
set_option maxRecDepth 100000
set_option maxHeartbeats 4000000
namespace SWL
open PySem PySem.Spec PyProof.Rows L2 LamX
/-! a comprehension over zip(text, text) -/
theorem walk_pairs (x y : Str) : Walk (PairsS x y) (x.cps.toList.zip y.cps.toList).length (fun _ => True) (fun i H v H' => ∃ (T : Addr) (c d : Nat), v = .ref T ∧ H T = none ∧ H' = upd H T (.tup [.str ⟨#[c]⟩, .str ⟨#[d]⟩]) ∧ (x.cps.toList.zip y.cps.toList)[i]? = some (c, d)) := by
  have hn : (x.cps.toList.zip y.cps.toList).length = min x.cps.size y.cps.size := by simp
  rw [hn]
  refine ⟨fun _ _ hi _ => hi, fun _ _ => rfl, fun i H v H' hi _ q => ?_⟩
  obtain ⟨T, c, d, h1, h2, h3, h4, h5⟩ := q
  exact ⟨T, c, d, h1, h2, h3, List.getElem?_zip_eq_some.mpr ⟨by rw [Array.getElem?_toList]; exact h4, by rw [Array.getElem?_toList]; exact h5⟩⟩
theorem compZ {K : PySem.W.Frag} {x y : Str} (f : Nat × Nat → V) {i j : Nat} {te : TE} {σ : L2.St} {H1 : Hp} {D : Addr} {Qd : Hp → Prop} (nD : H1 D = none) (hij : i ≠ j) (hz : x.length ≤ sizeLine)
    (hte : ∀ c d H Q, (c, d) ∈ x.cps.toList.zip y.cps.toList → Grows H1 H → (∀ H', Grows H H' → Q (f (c, d)) H') → te ((((σ.set j none).set i none).set i (some (.str ⟨#[c]⟩))).set j (some (.str ⟨#[d]⟩))) H Q)
    (hd : ∀ H, Grows H1 H → H D = some (.lst ((x.cps.toList.zip y.cps.toList).map f)) → Qd H) :
    ∃ W : Nat → Nat → Hp → Prop, (∃ m, W 0 m (upd H1 D (.lst []))) ∧ ∀ n m H, W n m H →
      ((PairsS x y).stop n H ∧ Qd H) ∨ ((PairsS x y).go n H ∧ ∃ Nx : Hp → Prop, (∀ H', Nx H' → ∃ m', m' < m ∧ W (n + 1) m' H') ∧ ∀ x' H', (PairsS x y).yld n H x' H' → gTup K 2 (gCons (gName i) (gCons (gName j) gNil)) x' (wipe σ [i, j]) H' fun σ2 H2 => wipe σ2 [i, j] = wipe σ [i, j] ∧ tYes σ2 H2 fun b H3 =>
        if b = true then te σ2 H3 fun y H4 => ∃ acc, H4 D = some (.lst acc) ∧ acc.length < sizeLine ∧ Nx (upd H4 D (.lst (acc ++ [y]))) else Nx H3) := by
  have gU : ∀ {H : Hp} {o : HO}, Grows H1 H → Grows H1 (upd H D o) := fun g b u e => by
    rw [upd_ne (ne_of_none e nD)]
    exact g b u e
  refine lc_it (walk_pairs x y) (fun n H => Grows H1 H ∧ H D = some (.lst (((x.cps.toList.zip y.cps.toList).take n).map f))) ⟨Grows.new nD, by rw [upd_same]; rfl⟩ (fun n H _ h => trivial) (fun n v H H' hn ⟨g, hD⟩ ⟨T, c, d, hv, hT, hH', hcd⟩ => ?_) fun H ⟨g, hD⟩ => hd H g (by rw [List.take_length] at hD; exact hD)
  subst hH'
  have gT : Grows H (upd H T (.tup [.str ⟨#[c]⟩, .str ⟨#[d]⟩])) := Grows.new hT
  refine ⟨T, _, hv, .inl (.inl upd_same), rfl, _, _, rfl, _, _, rfl, rfl, ?_, ?_⟩
  · show (((((σ.set j none).set i none).set i _).set j _).set j none).set i none = (σ.set j none).set i none
    simp only [List.set_set]
    rw [List.set_comm _ _ hij]
    simp only [List.set_set]
  · refine hte c d _ _ (List.mem_of_getElem? hcd) (g.trans gT) fun H3 g3 => ?_
    refine ⟨_, g3 _ _ (gT _ _ hD), ?_, gU ((g.trans gT).trans g3), ?_⟩
    · rw [List.length_map, List.length_take]
      have : (x.cps.toList.zip y.cps.toList).length ≤ x.length := by
        rw [List.length_zip, Array.length_toList]
        exact Nat.min_le_left _ _
      omega
    · rw [upd_same, take_snoc hcd, List.map_append]
      rfl
end SWL
set_option Elab.async false
set_option linter.all false
set_option maxRecDepth 100000
set_option maxHeartbeats 4000000
namespace SWL
open PySem PySem.Spec PyProof.Rows L2 LamX
/-! enumerate(tuple); text * int -/
def IteT (K : PySem.W.Frag) (a : Addr) : It :=
  ⟨fun i H => ∃ (xs : List V) (x : V), SqT K H a xs ∧ xs[i]? = some x, fun i H v H' => ∃ T x, v = .ref T ∧ H T = none ∧ H' = upd H T (.tup [.int (i : Nat), x]) ∧ ∀ xs, SqT K H a xs → xs[i]? = some x, fun i H => ∃ xs : List V, SqT K H a xs ∧ xs.length = i⟩
theorem turn_enumT {P : Program} {w : World} {K : PySem.W.Frag} {elts : List Expr} {kk : Nat} {tpos : Pos} (a e it : Addr) :
    Turn P w K (.Tuple elts kk tpos) (IteT K a) [e, it] e (fun i h => (∃ old, IsEnum h e it (0 + ((i : Nat) : Int)) old) ∧ h.IsTupleIter it a i ∧ e ≠ it ∧ a ≠ it ∧ e ≠ a) where
  mem := by simp
  obj := fun i h st b hb => by
    obtain ⟨⟨old, he⟩, ⟨o, ho, hc, hd⟩, _⟩ := st
    rcases (by simpa using hb : b = e ∨ b = it) with z | z
    · exact ⟨_, by rw [z]; exact he, fun v q => by cases q⟩
    · exact ⟨o, by rw [z]; exact ho, fun v q => by rw [hd] at q; cases q⟩
  keep := fun i h h' st k => let ⟨⟨old, he⟩, hi, hne⟩ := st; ⟨⟨old, k e (by simp) _ he⟩, hi.at fun o q => k it (by simp) o q, hne⟩
  item := by
    intro X hP hw hK hc i pins s σ H E I hf st hg
    subst hP hw hK
    have hh : X.A.handled = none := I.ok.hd hc
    obtain ⟨xs, x, hq, hx⟩ := hg
    obtain ⟨its, rv, p, hz⟩ := I.tuple hq
    obtain ⟨he, hit, hne, hai, hea⟩ := st
    have G := GoesN.enumFrom (elts := elts) (x1 := kk) (pos := tpos) 0 (Draws.tuple (prog := X.prog) (w := X.w) (A := X.A.in1) hh it a hai its.toArray) e hne (by simp [hne, hea]) (by simp)
    have hlt : i < its.toArray.size := by
      have := (List.getElem?_eq_some_iff.mp hx).1
      have := rv.length
      simp
      omega
    refine G.goes i s _ E hlt ⟨he, hit, p⟩ fun v h' tk hY st' hk _ => ?_
    obtain ⟨T, t, u, rfl, hT, hu, hTup⟩ := hY
    have fr : H T = none := I.hok.fresh hT
    have ru : RelV x u := by
      obtain ⟨u', hu', ru⟩ := rv.get hx
      have e : its.toArray[i]? = some u' := by simpa using hu'
      rw [e] at hu
      cases hu
      exact ru
    refine ⟨.ref T, upd H T (.tup [.int (i : Nat), x]), I.turnedNew (t' := tk) (ch := [e, it]) hk hf hT ?_, rfl, ⟨T, x, rfl, fr, rfl, fun ys hy => by rw [I.tuple_inj hy hq]; exact hx⟩, ⟨st'.1, st'.2.1, hne, hai, hea⟩, fun b hb => ?_⟩
    · refine ⟨by show 2 ≤ sizeLine; decide, _, .cons ⟨t, ?_⟩ (.cons ru .nil), hTup⟩
      rw [Int.zero_add]
    · have hlt2 : b < s.heap.objs.size := by
        obtain ⟨old, he⟩ := he
        obtain ⟨o, ho, _⟩ := hit
        rcases (by simpa using hb : b = e ∨ b = it) with z | z
        · rw [z]; exact Heap.lt_size he
        · rw [z]; exact Heap.lt_size ho
      rw [upd_ne (Nat.ne_of_lt (Nat.lt_of_lt_of_le hlt2 hT))]
      exact (hf b hb).1
  done := by
    intro X hP hw hK hc i pins s σ H E I hf st hg
    subst hP hw hK
    have hh : X.A.handled = none := I.ok.hd hc
    obtain ⟨xs, hq, hx⟩ := hg
    obtain ⟨its, rv, p, hz⟩ := I.tuple hq
    obtain ⟨he, hit, hne, hai, hea⟩ := st
    have G := GoesN.enumFrom (elts := elts) (x1 := kk) (pos := tpos) 0 (Draws.tuple (prog := X.prog) (w := X.w) (A := X.A.in1) hh it a hai its.toArray) e hne (by simp [hne, hea]) (by simp)
    have hi : i = its.toArray.size := by
      have := rv.length
      simp
      omega
    rw [hi] at he hit
    exact G.stops s _ E ⟨he, hit, p⟩ fun h' tk hk _ => I.turnedL (t' := tk) (ch := [e, it]) hk hf
  self := fun A i s Q E st h => let ⟨⟨_, he⟩, _⟩ := st; wpAny_pyIter_enum he h
set_option maxHeartbeats 8000000 in
theorem meets_enum1 {v : Value} {o : Obj} {I : Heap → Prop} (B : Begins v o I) : Meets (Builtin.«enumerate.__new__» ⟨[.type "enumerate", v], []⟩) (fun _ R s => I s.heap ∧
      R (.ok (.ret (.ref (s.heap.push o).objs.size))) { s with heap := (s.heap.push o).push { cls := .type "enumerate", data := .fields #[.none, .bool false, .ref s.heap.objs.size, rawInt 0, .none, .none] } }) :=
  .of_wp fun prog w A R s h => by
    obtain ⟨hp, g, d, tk, os⟩ := s
    obtain ⟨h1, h⟩ := h
    have hsub := sub_enumerate
    have beg : ∀ {A' : Around} {E : Value → Shared → Prop} {Q : Value → Shared → Prop}, Q (.ref hp.objs.size) ⟨hp.push o, g, d, tk, os⟩ → wpAny (model prog w) A' (pyIter v) Q E ⟨hp, g, d, tk, os⟩ := fun q => B.iter prog w _ _ ⟨hp, g, d, tk, os⟩ _ h1 q
    wp_walk using beg
    refine wpAny_stack_any fun st => wpAny_pure ?_
    split
    · rename_i c _ _ _ _ _
      cases (c == Value.type "enumerate")
      · wp_walk using beg
        exact ⟨_, rfl, h⟩
      · wp_walk using beg
        exact ⟨_, rfl, h⟩
    · wp_walk using beg
      exact ⟨_, rfl, h⟩
theorem call_enum1 {prog : Program} {w : World} {A : Around} {E : Value → Shared → Prop} {s : Shared} {v : Value} {o : Obj} {I : Heap → Prop} {Q : Value → Shared → Prop} (B : Begins v o I) (h1 : I s.heap)
    (h : ∀ h', IsEnum h' (s.heap.objs.size + 1) s.heap.objs.size 0 .none → h'.get? s.heap.objs.size = some o → (∀ b o, s.heap.get? b = some o → h'.get? b = some o) → Q (.ref (s.heap.objs.size + 1)) { s with heap := h' }) :
    wpAny (model prog w) A (call (.type "enumerate") [v]) Q E s := by
  refine callType_new F.called_enumerate (by decide) (F.typeCall_enumerate_1 _) (F.newCall_enumerate_1 _) (fun obj => F.args_object_init_2 obj _) F.entry_enumerate_new (meets_enum1 B) ⟨h1, ?_⟩
  have hz : (s.heap.push o).objs.size = s.heap.objs.size + 1 := Heap.size_push ..
  show _ ∧ _
  rw [hz]
  have he : IsEnum ((s.heap.push o).push { cls := .type "enumerate", data := .fields #[.none, .bool false, .ref s.heap.objs.size, rawInt 0, .none, .none] }) (s.heap.objs.size + 1) s.heap.objs.size 0 .none := by
    have q := Heap.get?_push_size (s.heap.push o) (o := { cls := .type "enumerate", data := .fields #[.none, .bool false, .ref s.heap.objs.size, rawInt 0, .none, .none] }) rfl
    rw [hz] at q
    exact q
  exact ⟨⟨_, he, rfl⟩, h _ he (Heap.get?_push_of_some _ (Heap.get?_push_size _ B.free)) fun b o x => Heap.get?_push_of_some _ (Heap.get?_push_of_some _ x)⟩
def iEnumT (K : PySem.W.Frag) (ta : TA) : TI := fun σ H R => ta σ H fun vs H1 => ∃ a xs, vs = [.ref a] ∧ SqT K H1 a xs ∧ R (IteT K a) H1
theorem pi_enumT {X : Cx} {e : Expr} {ta : TA} {p pos tpos : Pos} {elts : List Expr} {kk : Nat} (hg : Gl X "enumerate") (hm : X.mg "enumerate" = none) (ha : PA X [e] ta) (hs : starEach [e] X.env = [(false, eval e X.env)] := by rfl) :
    PI X (.Tuple elts kk tpos) (.Call (.Name "enumerate" p) [e] [] pos) (iEnumT X.K ta) := by
  refine ⟨fun pins s σ H R I h => ?_⟩
  refine Call_ (ld_blt I hg hm boot_enumerate (PyProof.Rows.callWith_type1 (thn (ha.run pos pins s σ H _ I h) fun us s1 ⟨vs, H1, I1, r1, q1⟩ => ?_) hs rfl))
  obtain ⟨a, xs, rfl, hq, q⟩ := q1
  obtain ⟨u, rfl, ru⟩ := vals1 r1
  cases ru
  obtain ⟨its, rv, p', hz⟩ := I1.tuple hq
  refine call_enum1 (begins_tuple a its.toArray) p' fun h' he hit hk => wpAny_pyIter_enum he ?_
  have I2 : Inv X pins σ H1 { s1 with heap := h' } := I1.kept (t' := s1.toks) hk
  have hal : a < s1.heap.objs.size := by
    obtain ⟨o, ho, _⟩ := p'
    exact Heap.lt_size ho
  refine ⟨s1.heap.objs.size + 1, [s1.heap.objs.size + 1, s1.heap.objs.size], _, _, H1, rfl, I2, turn_enumT a (s1.heap.objs.size + 1) s1.heap.objs.size, ⟨⟨.none, by rw [Int.zero_add]; exact he⟩, ⟨_, hit, rfl, rfl⟩, Nat.succ_ne_self _, Nat.ne_of_lt hal, Nat.ne_of_gt (Nat.lt_succ_of_lt hal)⟩, fun b hb => ?_, q⟩
  have hle : s1.heap.objs.size ≤ b := by
    rcases (by simpa using hb : b = s1.heap.objs.size + 1 ∨ b = s1.heap.objs.size) with z | z <;> rw [z] <;> first | exact Nat.le_add_right _ _ | exact Nat.le_refl _
  exact I1.fpOk hle (I1.hok.fresh hle)
theorem walk_enumT {K : PySem.W.Frag} {a : Addr} {xs : List V} : Walk (IteT K a) xs.length (fun H => SqT K H a xs) (YPair (fun i => some (.int (i : Nat))) (fun i => xs[i]?)) := by
  refine ⟨fun i _ hi q => ⟨xs, xs[i], q, by simp [hi]⟩, fun _ q => ⟨xs, q, rfl⟩, fun i H v H' _ q y => ?_⟩
  obtain ⟨T, x, h1, h2, h3, h4⟩ := y
  exact ⟨T, .int (i : Nat), x, h1, h2, h3, rfl, h4 xs q⟩
theorem op_mulS {X : Cx} : OpR X (binaryOp .Mult) (fun x y H Q => ∃ (z : Str) (n : Nat), x = .str z ∧ y = .int n ∧ n ≤ 1000000 ∧ z.length * n ≤ 1000000 ∧ Q (.str (Txt.mul z n)) H) := by
  intro pins s σ H x y v u Q I rx ry h
  obtain ⟨z, n, rfl, rfl, hn, hz, q⟩ := h
  obtain ⟨t, rfl⟩ := rx
  obtain ⟨t', rfl⟩ := ry
  have b0 : (0 : Int) ≤ n := Int.natCast_nonneg n
  have b1 : (n : Int) ≤ 1000000 := by omega
  have c1 : ¬ ((n : Int) < -(2 ^ 63 : Int)) := fun h => absurd (Int.lt_of_le_of_lt b0 h) (by decide)
  have c2 : ¬ ((n : Int) ≥ 2 ^ 63) := fun h => absurd (Int.le_trans h b1) (by decide)
  refine SB.mul ⟨Bool.or_eq_false_iff.mpr ⟨decide_eq_false c1, decide_eq_false c2⟩, fun h1 _ h2 => ?_, fun h1 _ => ?_⟩ fun t2 k => ⟨.str (Txt.mul z n), H, I.kept (t' := k) fun _ _ e => e, ⟨t2, rfl⟩, q⟩
  · have h3 : (1 : Int) ≤ n := by omega
    have hn0 : (0 : Int) < n := by omega
    have h5 : ((z.length * n : Nat) : Int) ≤ 1000000 := by omega
    rw [Int.natCast_mul] at h5
    have h6 : ((2 : Int) ^ 63 - 1) / n * n ≤ 2 ^ 63 - 1 := Int.ediv_mul_le _ (by omega)
    have h7 : ((2 : Int) ^ 63 - 1) < (((2 : Int) ^ 63 - 1) / n + 1) * n := Int.lt_ediv_add_one_mul_self _ hn0
    have h8 : (((2 : Int) ^ 63 - 1) / n + 1) * n ≤ z.length * n := Int.mul_le_mul_of_nonneg_right (by omega) (by omega)
    omega
  · rw [Int.toNat_natCast]
    have e : sizeLine = 16777216 := sizeLine_eq
    exact decide_eq_false (by omega)
theorem mul_cps (z : Str) (n : Nat) : (Txt.mul z n).cps.toList = (List.replicate n z.cps.toList).flatten := by
  have fold : ∀ (n : Nat) (acc : Array Nat), ((List.replicate n z.cps).foldl (· ++ ·) acc).toList = acc.toList ++ (List.replicate n z.cps.toList).flatten := by
    intro n
    induction n with
    | zero => intro acc; simp
    | succ n ih =>
      intro acc
      rw [List.replicate_succ, List.foldl_cons, ih, List.replicate_succ, List.flatten_cons, Array.toList_append, List.append_assoc]
  unfold Txt.mul
  by_cases h : (n : Int) < 1
  · have : n = 0 := by omega
    subst this
    rw [if_pos h]
    rfl
  · rw [if_neg h]
    by_cases h2 : ((n : Int) == 1 || z.length == 0) = true
    · rw [if_pos h2]
      simp only [Bool.or_eq_true, beq_iff_eq] at h2
      rcases h2 with h2 | h2
      · have : n = 1 := by omega
        subst this
        simp
      · have : z.cps.toList = [] := List.length_eq_zero_iff.mp (by rw [Array.length_toList]; exact h2)
        rw [this]
        simp
    · rw [if_neg h2, Int.toNat_natCast]
      have := fold n #[]
      simpa using this
end SWL
set_option Elab.async false
set_option linter.all false
set_option maxRecDepth 100000
set_option maxHeartbeats 4000000
namespace SWL
open PySem PySem.Spec PyProof.Rows L2 LamX
/-! a list display over things of which more is known than their values -/
theorem compT {α : Type} {J : It} {G : Hp → Prop} {I : List α} {gv : α → V} (w : Walk J I.length G (YAt (I.map gv))) (p : α → Bool) (f : α → V) {own : List Nat} {g : TG} {tt : TT} {te : TE} {σ : L2.St} (τ : α → L2.St) {H1 : Hp} {D : Addr} {Qd : Hp → Prop} (nD : H1 D = none)
    (hG : ∀ H, Grows H1 H → G H) (hz : I.length ≤ sizeLine)
    (hgt : ∀ q H Q, q ∈ I → Grows H1 H → Q (τ q) H → g (gv q) (wipe σ own) H Q) (hw : ∀ q, wipe (τ q) own = wipe σ own)
    (htt : ∀ q H k, q ∈ I → Grows H1 H → (∀ H', Grows H H' → k (p q) H') → tt (τ q) H k)
    (hte : ∀ q H Q, q ∈ I → p q = true → Grows H1 H → (∀ H', Grows H H' → Q (f q) H') → te (τ q) H Q)
    (hd : ∀ H, Grows H1 H → H D = some (.lst ((I.filter p).map f)) → Qd H) :
    ∃ W : Nat → Nat → Hp → Prop, (∃ m, W 0 m (upd H1 D (.lst []))) ∧ ∀ n m H, W n m H →
      (J.stop n H ∧ Qd H) ∨ (J.go n H ∧ ∃ Nx : Hp → Prop, (∀ H', Nx H' → ∃ m', m' < m ∧ W (n + 1) m' H') ∧ ∀ x H', J.yld n H x H' → g x (wipe σ own) H' fun σ2 H2 => wipe σ2 own = wipe σ own ∧ tt σ2 H2 fun b H3 =>
        if b = true then te σ2 H3 fun y H4 => ∃ acc, H4 D = some (.lst acc) ∧ acc.length < sizeLine ∧ Nx (upd H4 D (.lst (acc ++ [y]))) else Nx H3) := by
  have gU : ∀ {H : Hp} {o : HO}, Grows H1 H → Grows H1 (upd H D o) := fun g b u e => by
    rw [upd_ne (ne_of_none e nD)]
    exact g b u e
  refine lc_it w (fun n H => Grows H1 H ∧ H D = some (.lst (((I.take n).filter p).map f))) ⟨Grows.new nD, by rw [upd_same]; rfl⟩ (fun n H _ h => hG H h.1) (fun n x H H' hn ⟨g1, hD⟩ ⟨e, hx⟩ => ?_) fun H ⟨g1, hD⟩ => hd H g1 (by rw [List.take_length] at hD; exact hD)
  subst e
  rw [List.getElem?_map] at hx
  obtain ⟨q, hq, rfl⟩ : ∃ q, I[n]? = some q ∧ x = gv q := by
    cases e : I[n]? with
    | none => rw [e] at hx; cases hx
    | some q => rw [e] at hx; exact ⟨q, rfl, (Option.some.inj hx).symm⟩
  have hm : q ∈ I := List.mem_of_getElem? hq
  refine hgt q H' _ hm g1 ⟨hw q, ?_⟩
  refine htt q H' _ hm g1 fun H2 g2 => ?_
  have et : ((I.take (n + 1)).filter p).map f = ((I.take n).filter p).map f ++ (if p q = true then [f q] else []) := by
    rw [take_snoc hq, List.filter_append, List.map_append]
    by_cases hp : p q = true <;> simp [hp]
  by_cases hp : p q = true
  · rw [if_pos hp]
    refine hte q H2 _ hm hp (g1.trans g2) fun H3 g3 => ?_
    refine ⟨_, g3 _ _ (g2 _ _ hD), ?_, gU ((g1.trans g2).trans g3), ?_⟩
    · rw [List.length_map]
      have hs : ((I.take (n + 1)).filter p).length ≤ (I.filter p).length := ((List.take_sublist (n + 1) I).filter p).length_le
      rw [take_snoc hq, List.filter_append, List.length_append] at hs
      have h1 : ([q].filter p).length = 1 := by simp [hp]
      have h2 := List.length_filter_le p I
      omega
    · rw [upd_same, et, if_pos hp]
  · rw [if_neg hp]
    refine ⟨g1.trans g2, ?_⟩
    rw [et, if_neg hp, List.append_nil]
    exact g2 _ _ hD
theorem comp1 {α : Type} {J : It} {G : Hp → Prop} {I : List α} {gv : α → V} (w : Walk J I.length G (YAt (I.map gv))) (p : α → Bool) (f : α → V) {i : Nat} {tt : TT} {te : TE} {σ : L2.St} {H1 : Hp} {D : Addr} {Qd : Hp → Prop} (nD : H1 D = none)
    (hG : ∀ H, Grows H1 H → G H) (hz : I.length ≤ sizeLine)
    (htt : ∀ q H k, q ∈ I → Grows H1 H → (∀ H', Grows H H' → k (p q) H') → tt ((σ.set i none).set i (some (gv q))) H k)
    (hte : ∀ q H Q, q ∈ I → p q = true → Grows H1 H → (∀ H', Grows H H' → Q (f q) H') → te ((σ.set i none).set i (some (gv q))) H Q)
    (hd : ∀ H, Grows H1 H → H D = some (.lst ((I.filter p).map f)) → Qd H) :
    ∃ W : Nat → Nat → Hp → Prop, (∃ m, W 0 m (upd H1 D (.lst []))) ∧ ∀ n m H, W n m H →
      (J.stop n H ∧ Qd H) ∨ (J.go n H ∧ ∃ Nx : Hp → Prop, (∀ H', Nx H' → ∃ m', m' < m ∧ W (n + 1) m' H') ∧ ∀ x H', J.yld n H x H' → gName i x (wipe σ [i]) H' fun σ2 H2 => wipe σ2 [i] = wipe σ [i] ∧ tt σ2 H2 fun b H3 =>
        if b = true then te σ2 H3 fun y H4 => ∃ acc, H4 D = some (.lst acc) ∧ acc.length < sizeLine ∧ Nx (upd H4 D (.lst (acc ++ [y]))) else Nx H3) :=
  compT w p f (own := [i]) (g := gName i) (fun q => (σ.set i none).set i (some (gv q))) nD hG hz (fun q H Q _ _ h => h) (fun q => by show (((σ.set i none).set i (some (gv q))).set i none) = σ.set i none; simp) htt hte hd
end SWL
set_option Elab.async false
set_option linter.all false
set_option maxRecDepth 100000
set_option maxHeartbeats 4000000
namespace SWL
open PySem PySem.Spec PyProof.Rows L2
/-! repr of any plain data -/
def askReprD (K : PySem.W.Frag) : List V → Hp → VK → Prop := fun xs H Q =>
  ∃ (x : V) (d : PyData), xs = [x] ∧ Dp K H x d ∧ d.showable = true ∧ d.hasDict = false ∧ d.depth ≤ 50 ∧ d.shown.length ≤ sizeLine ∧ Q (.str d.shown) H
section
variable {X : Cx}
theorem cr_reprD (gd : X.A.guards = some []) (hu : X.A.units + 64 < cLine) : CallR X (.builtin "repr") (askReprD X.K) := by
  intro pins s σ H xs us Q I rel q
  obtain ⟨x, d, rfl, hd, hs, hn, hdep, hlen, q⟩ := q
  have tk : ∀ {t : Tok}, Inv X pins σ H { s with toks := t } := fun {t} => I.kept (t' := t) (h' := s.heap) fun _ _ e => e
  have byRef : ∀ a, x = .ref a → _ := fun a (e : x = .ref a) => by
    subst e
    exact cr_repr gd hu pins s σ H _ us Q I rel ⟨a, d, rfl, hd, hs, hn, hdep, hlen, q⟩
  cases hd with
  | lst h1 h2 => exact byRef _ rfl
  | tup h1 h2 => exact byRef _ rfl
  | non =>
    obtain ⟨u, rfl, ru⟩ := vals1 rel
    cases ru
    exact PySem.P.repr_of_none ⟨.str (PyData.shown _), H, tk, ⟨_, rfl⟩, q⟩
  | bl b =>
    obtain ⟨u, rfl, ru⟩ := vals1 rel
    cases ru
    exact PySem.P.repr_of_bool ⟨.str (PyData.shown _), H, tk, ⟨_, rfl⟩, q⟩
  | int i =>
    obtain ⟨u, rfl, t, rfl⟩ := vals1 rel
    exact PySem.P.repr_of_int (of_decide_eq_true hs) ⟨.str (PyData.shown _), H, tk, ⟨_, rfl⟩, q⟩
  | str z =>
    obtain ⟨u, rfl, t, rfl⟩ := vals1 rel
    exact PySem.P.repr_of_str ⟨.str (PyData.shown _), H, tk, ⟨_, rfl⟩, q⟩ hlen
end
end SWL
set_option Elab.async false
set_option linter.all false
set_option maxRecDepth 100000
set_option maxHeartbeats 4000000
namespace SWL
open PySem PySem.Spec PyProof.Rows L2 LamX
/-! texts: a letter's first and last place, the text turned about, what is ahead and behind -/
theorem first_at {z : Str} {c : Nat} (hc : c ∈ z.cps.toList) : ∃ i rest, PySem.Builtin.Str.occurrences z ⟨#[c]⟩ 0 z.length 1 = i :: rest ∧ z.cps.toList[i]? = some c ∧ ∀ k, k < i → z.cps.toList[k]? ≠ some c := by
  rcases PySem.StrLaws.occ_head z ⟨#[c]⟩ 1 (Nat.le_refl _) with ⟨_, h⟩ | ⟨i, r, e, h1, h2⟩
  · obtain ⟨i, hi⟩ := List.getElem?_of_mem hc
    exact absurd ((PySem.StrLaws.subAt_one z c i).mpr hi) (h i)
  · exact ⟨i, r, e, (PySem.StrLaws.subAt_one z c i).mp h1, fun k hk z' => h2 k hk ((PySem.StrLaws.subAt_one z c k).mpr z')⟩
theorem last_at {z : Str} {c : Nat} (hc : c ∈ z.cps.toList) : ∃ i, PySem.Builtin.Str.lastOccurrence z ⟨#[c]⟩ 0 z.length = some i ∧ z.cps.toList[i]? = some c ∧ ∀ k, i < k → z.cps.toList[k]? ≠ some c := by
  rcases PySem.StrLaws.last_spec z ⟨#[c]⟩ with ⟨_, h⟩ | ⟨i, e, h1, h2⟩
  · obtain ⟨i, hi⟩ := List.getElem?_of_mem hc
    exact absurd ((PySem.StrLaws.subAt_one z c i).mpr hi) (h i)
  · exact ⟨i, e, (PySem.StrLaws.subAt_one z c i).mp h1, fun k hk z' => h2 k hk ((PySem.StrLaws.subAt_one z c k).mpr z')⟩
section
variable {X : Cx}
theorem mt_index : MtR X "str.index" (fun x xs H Q => ∃ (z : Str) (c : Nat), x = .str z ∧ xs = [.str ⟨#[c]⟩] ∧ c ∈ z.cps.toList ∧ ∀ i : Nat, z.cps.toList[i]? = some c → (∀ k, k < i → z.cps.toList[k]? ≠ some c) → Q (.int (i : Nat)) H) := by
  intro pins s σ H x xs v us Q I rx rs h
  obtain ⟨z, c, rfl, rfl, hc, q⟩ := h
  obtain ⟨t, rfl⟩ := rx
  cases rs with
  | cons r1 rs =>
    cases rs
    obtain ⟨u, rfl⟩ := r1
    obtain ⟨i, rest, e, h1, h2⟩ := first_at hc
    exact call_gives F.slot_str_index (typeIs_str _ _ _) F.entry_str_index (F.args_str_index_2 _ _) (gives_str_index z _ t u i rest e) ⟨.int i, H, I.tok _, ⟨_, rfl⟩, q i h1 h2⟩
theorem mt_rindex : MtR X "str.rindex" (fun x xs H Q => ∃ (z : Str) (c : Nat), x = .str z ∧ xs = [.str ⟨#[c]⟩] ∧ c ∈ z.cps.toList ∧ ∀ i : Nat, z.cps.toList[i]? = some c → (∀ k, i < k → z.cps.toList[k]? ≠ some c) → Q (.int (i : Nat)) H) := by
  intro pins s σ H x xs v us Q I rx rs h
  obtain ⟨z, c, rfl, rfl, hc, q⟩ := h
  obtain ⟨t, rfl⟩ := rx
  cases rs with
  | cons r1 rs =>
    cases rs
    obtain ⟨u, rfl⟩ := r1
    obtain ⟨i, e, h1, h2⟩ := last_at hc
    exact call_gives F.slot_str_rindex (typeIs_str _ _ _) F.entry_str_rindex (F.args_str_rindex_2 _ _) (gives_str_rindex z _ t u i e) ⟨.int i, H, I.tok _, ⟨_, rfl⟩, q i h1 h2⟩
/-- the text turned about -/
def revS (z : Str) : Str := ⟨z.cps.toList.reverse.toArray⟩
theorem rev_slice (z : Str) (u : Tok) : PySem.Txt.sliceBy z none none (-1, u) = revS z := by
  have e := step_rev_list z u
  have e2 : ((List.range z.length).map fun k => z.cps.getD (z.length - 1 - k) 0) = z.cps.toList.reverse := by
    have hl : z.cps.toList.length = z.length := Array.length_toList ..
    refine List.ext_getElem? fun i => ?_
    rw [List.getElem?_map]
    by_cases h : i < z.length
    · rw [List.getElem?_range h, List.getElem?_reverse (by omega), hl]
      have h2 : z.length - 1 - i < z.cps.toList.length := by omega
      rw [List.getElem?_eq_getElem h2]
      have h3 : z.length - 1 - i < z.cps.size := h2
      simp [Array.getD, h3]
    · have h1 : (List.range z.length)[i]? = none := List.getElem?_eq_none_iff.mpr (by rw [List.length_range]; omega)
      have h2 : z.cps.toList.reverse[i]? = none := List.getElem?_eq_none_iff.mpr (by rw [List.length_reverse]; omega)
      rw [h1, h2]
      rfl
  rw [e2] at e
  generalize PySem.Txt.sliceBy z none none (-1, u) = y at e
  unfold revS
  rw [← e]
/-- text[::-1] -/
def tRevS (te : TE) : TE := fun σ H Q => te σ H fun x H1 => ∃ z, x = .str z ∧ z.length ≤ sizeLine ∧ Q (.str (revS z)) H1
theorem pe_revS {e : Expr} {te : TE} {k : Nat} {p1 p2 p3 pos : Pos} (he : PE X e te) : PE X (.Subscript e (.Slice none none (some (.UnaryOp .USub (.Constant (.int 1) k p1) p2)) p3) pos) (tRevS te) := by
  refine ⟨fun pins s σ H Q I h => ?_⟩
  refine Subscript_ (thn (he.run pins s σ H _ I h) fun v s1 ⟨x, H1, I1, r1, z, ex, hz, q⟩ => ?_)
  subst ex
  obtain ⟨t, rfl⟩ := r1
  have hst : PO X (some (.UnaryOp .USub (.Constant (.int 1) k p1) p2)) (tPart (tUn (rU fun i => .int (-i)) (tC (.int 1)))) := po_some (pe_un un_neg pe_int)
  refine wpAny_Slice (thn (po_none.run pins s1 σ H1 (fun o H2 => o = none ∧ H2 = H1) I1 ⟨rfl, rfl⟩) fun vl s2 ⟨l, H2, I2, pl, el, e2⟩ => ?_)
  subst el e2
  refine thn (po_none.run pins s2 σ H2 (fun o H3 => o = none ∧ H3 = H2) I2 ⟨rfl, rfl⟩) fun vu s3 ⟨u, H3, I3, pu, eu, e3⟩ => ?_
  subst eu e3
  refine thn (hst.run pins s3 σ H3 (fun o H4 => o = some (-1) ∧ H4 = H3) I3 ⟨1, rfl, -1, rfl, rfl, rfl⟩) fun vs s4 ⟨o, H4, I4, ps, eo, e4⟩ => ?_
  subst eo e4
  obtain ⟨l, rfl, hl⟩ := IsPart.raw pl
  obtain ⟨u, rfl, hu⟩ := IsPart.raw pu
  obtain ⟨y, rfl, hy⟩ := IsPart.raw ps
  have I5 : Inv X pins σ H4 { s4 with heap := s4.heap.push { cls := .type "slice", data := .fields #[partValue l, partValue u, partValue y] } } := I4.kept (t' := s4.toks) fun b ob q => Heap.get?_push_of_some _ q
  obtain rfl : l = none := by
    cases l with
    | none => rfl
    | some p => cases hl
  obtain rfl : u = none := by
    cases u with
    | none => rfl
    | some p => cases hu
  obtain ⟨ty, rfl⟩ : ∃ ty, y = some (-1, ty) := by
    cases y with
    | none => cases hy
    | some p =>
      obtain ⟨a, b⟩ := p
      cases hy
      exact ⟨b, rfl⟩
  show wpAny (model X.prog X.w) X.A (subscriptTail e (.Slice none none (some (.UnaryOp .USub (.Constant (.int 1) k p1) p2)) p3) (.str z t) (.ref s4.heap.objs.size)) (EP X pins σ Q) X.xe { s4 with heap := s4.heap.push { cls := .type "slice", data := .fields #[.none, .none, .int (-1) ty] } }
  refine tail_any (ops := [.ref s4.heap.objs.size, .str z t]) (typeIs_str _ _ _) F.slot_str_getitem.lookup ?_ (by with_unfolding_all rfl)
  refine wpAny_getItem_str_slice (l := none) (u := none) (st := some (-1, ty)) ⟨_, Heap.get?_push_size _ rfl, rfl, rfl⟩ rfl ?_
  refine post_val_or_str ⟨Nat.le_trans (PySem.Txt.sliceBy_le z none none (-1, ty) (show (-1 : Int) ≠ 0 by decide)) hz, fun t' c => ?_⟩
  refine ⟨.str (revS z), H4, I5.tok c, ⟨t', ?_⟩, q⟩
  rw [← rev_slice z ty]
  rfl
end
end SWL
set_option Elab.async false
set_option linter.all false
set_option maxRecDepth 100000
set_option maxHeartbeats 4000000
namespace SWL
open PySem PySem.Spec PyProof.Rows L2 LamX
/-! set(v): what the filling of the new set does is all that is asked -/
/-- the empty set, as it is made -/
def set0 (w : World) : Obj := { cls := .type "set", dict := none, data := .set #[] 0 (.fresh 0 0 (!w.params.followText "set-order")) }
section
variable {P : Program} {w : World} {A : Around} {E : Value → Shared → Prop} {s : Shared}
theorem set_by {v : Value} {Q : Value → Shared → Prop}
    (fill : ∀ (A' : Around) (E' : Value → Shared → Prop), A'.handled = A.handled → A'.units ≤ A.units + 3 → wpAny (model P w) A' (Builtin.Frozenset.updateFrom "set.__init__" s.heap.objs.size v) (fun _ s₂ => Q (.ref s.heap.objs.size) s₂) E' { s with heap := s.heap.push (set0 w) }) :
    wpAny (model P w) A (call (.type "set") [v]) Q E s := by
  obtain ⟨c, tl, hmro⟩ := F.called_set.mro
  have a1 := F.called_set.made
  have a2 := F.called_set.sub
  have a3 := F.called_set.notType
  have a4 := F.called_set.canCreate
  have a5 := F.typeCall_set_1 v
  refine wpAny_call (codeAny_of_tree ?_)
  refine wpAny_pure ⟨Code.quiet_builtin _ (by decide +kernel), codeAny_builtin F.entry_type_call ?_⟩
  rw [Around.under_plain (weight_type_call_type "set" [v] []) rfl]
  repeat (any_goals (first | assumption | wp_step))
  refine codeAny_mono (code_set_led1 v (E := E) (Q₁ := fun obj s₁ => obj = .ref s.heap.objs.size ∧ s₁ = { s with heap := s.heap.push (set0 w) }) ⟨rfl, rfl⟩) fun r s₁ hr => ?_
  match r, hr with
  | .error e, hr => exact hr
  | .ok (.ret obj), hr =>
    obtain ⟨rfl, rfl⟩ := hr
    have hT : Shared.TypeIs { s with heap := s.heap.push (set0 w) } (.ref s.heap.objs.size) "set" := ⟨_, Heap.get?_push_size _ rfl, rfl⟩
    have hS : (s.heap.push (set0 w)).get? s.heap.objs.size = some (set0 w) := Heap.get?_push_size _ rfl
    have b1 := F.called_set.init.lookup
    have b2 := F.called_set.init.bind (.ref s.heap.objs.size)
    repeat (any_goals (first | assumption | wp_step))
    refine codeAny_mono (codeAny_call_builtin (R := wants (fun r s₂ => r = .none ∧ Q (.ref s.heap.objs.size) s₂) E) F.called_set.init.plain F.entry_set_init (check_set_init_1 hT ?_)) fun r₂ s₂ hr₂ => ?_
    · unfold Builtin.«set.__init__» noKeywords
      generalize Builtin.Frozenset.updateFrom = UF at fill ⊢
      wp_walk
      exact wpAny_mono (fill A.in1.in1 _ rfl (by show A.units + 1 + 1 ≤ _; omega)) (fun _ _ z => wpAny_pure ⟨rfl, z⟩) fun _ _ z => z
    · match r₂, hr₂ with
      | .error e, hr₂ => exact hr₂
      | .ok (.ret r), hr₂ =>
        obtain ⟨rfl, hq⟩ := hr₂
        repeat (any_goals (first | assumption | wp_step))
      | .ok (.next), hr₂ => exact hr₂.elim
      | .ok (.brk), hr₂ => exact hr₂.elim
      | .ok (.cont), hr₂ => exact hr₂.elim
  | .ok (.next), hr => exact hr.elim
  | .ok (.brk), hr => exact hr.elim
  | .ok (.cont), hr => exact hr.elim
/-- the filling, one thing behind the other: J i says what the set is when i things are put in -/
theorem fill_loop {I : Addr} {fp wr : List Addr} {G : Array GenState → Array GenState → Prop} {n : Nat} {Pv : Nat → Value → Prop} {St : Nat → Shared → Prop} {R : Result → Shared → Prop} {D : Addr} (W : WalksS P w A.in1 I fp wr G n Pv St) (away : D ∉ fp) (J : Nat → Heap → Prop)
    (stay : ∀ i h h', J i h → (∀ b o, b ∉ wr → h.get? b = some o → h'.get? b = some o) → J i h')
    (put : ∀ i v (s0 : Shared) (Q : Bool → Shared → Prop) (E' : Value → Shared → Prop), i < n → Pv i v → J i s0.heap → (∀ c h' tk, s0.toks ≤ tk → Heap.SameBut D s0.heap h' → J (i + 1) h' → Q c { s0 with heap := h', toks := tk }) → wpAny (model P w) A.in1 (setAdd D v) Q E' s0) :
    ∀ (m i : Nat) (s0 : Shared), i + m = n → St i s0 → J i s0.heap → (∀ s', Moved (D :: wr) G s0 s' → J n s'.heap → R (.ok (.ret .none)) s') → codeAny (model P w) A (.builtin "set.update.loop" ⟨[.ref D, .ref I], []⟩) R s0 := by
  have dw : D ∉ wr := fun z => away (W.sub _ z)
  intro m
  induction m with
  | zero =>
    intro i s0 e st j fin
    obtain rfl : i = n := e
    refine codeAny_builtin F.entry_set_update_loop ?_
    rw [Around.under_plainId F.plain_set_update_loop _]
    refine wpAny_bind (m := pyNext (.ref I)) (W.done s0 _ _ st fun s' mv => ?_)
    exact wpAny_pure (fin s' (mv.mono fun b hb => List.mem_cons_of_mem _ hb) (stay _ _ _ j fun b o nb e' => mv.heap b o nb e'))
  | succ m ih =>
    intro i s0 e st j fin
    have lt : i < n := by omega
    refine codeAny_builtin F.entry_set_update_loop ?_
    rw [Around.under_plainId F.plain_set_update_loop _]
    refine wpAny_bind (m := pyNext (.ref I)) (W.item i s0 _ _ lt st fun v s1 pv st1 mv => ?_)
    have j1 := stay _ _ _ j fun b o nb e' => mv.heap b o nb e'
    refine wpAny_bind (m := holding [v] (setAdd D v)) (wpAny_holding (put i v s1 _ _ lt pv j1 fun c h' tk htk sb j2 => ?_))
    refine wpAny_pure ⟨plainId_quiet F.plain_set_update_loop _, ih (i + 1) _ (by omega) (W.frame _ s1 _ _ st1 htk fun b hb o e' => ?_) j2 fun s2 mv2 j3 => ?_⟩
    · exact (sb.2 b fun z => away (z ▸ hb)).trans e'
    · refine fin s2 (Moved.trans W.gtrans ((mv.mono fun b hb => List.mem_cons_of_mem D hb).then_heap htk fun b o nb e' => ?_) mv2) j3
      exact (sb.2 b fun z => nb (z ▸ List.mem_cons_self)).trans e'
/-! sets of texts -/
def txOf (e : Int × Value) : Str := match e.2 with
  | .str z _ => z
  | _ => ""
def IsTx (P : Program) (w : World) (e : Int × Value) : Prop := ∃ z tk, e = ((strKind P w).hash z, Value.str z tk)
structure TxRaw (P : Program) (w : World) (L : List Str) (es : Array (Int × Value)) (t : SetTable) : Prop where
  each : ∀ e ∈ es.toList, IsTx P w e
  perm : (es.toList.map txOf).Perm L
  nd : L.Nodup
  few : L.length < scanBound
  fit : t.fits es.size = true
  ris : Ris t.place.toList
  led : w.params.followText "set-order" = true ∨ t.led = true
def TxSet (P : Program) (w : World) (h : Heap) (a : Addr) (L : List Str) : Prop := ∃ o es ep t, h.get? a = some o ∧ o.ExactSet ∧ o.data = .set es ep t ∧ TxRaw P w L es t
theorem TxSet.at {h h' : Heap} {a : Addr} {L : List Str} (x : TxSet P w h a L) (k : ∀ o, h.get? a = some o → h'.get? a = some o) : TxSet P w h' a L := by
  obtain ⟨o, es, ep, t, ho, r⟩ := x
  exact ⟨o, es, ep, t, k o ho, r⟩
theorem TxSet.new {h : Heap} {a : Addr} (ho : h.get? a = some (set0 w)) : TxSet P w h a [] := by
  refine ⟨_, #[], 0, _, ho, ⟨rfl, rfl, rfl⟩, rfl, ⟨fun e he => by simp at he, List.Perm.refl _, List.nodup_nil, by decide, rfl, List.Pairwise.nil, ?_⟩⟩
  cases c : w.params.followText "set-order" with
  | true => exact .inl rfl
  | false => exact .inr rfl
theorem tx_elems {es : List (Int × Value)} (h : ∀ e ∈ es, IsTx P w e) : ElemsOf (strKind P w) es := fun e he => by
  obtain ⟨z, tk, rfl⟩ := h e he
  exact ⟨⟨z, strKind_is P w z tk, rfl⟩, rfl⟩
theorem tx_is {e : Int × Value} (h : IsTx P w e) (z : Str) : (strKind P w).is z e.2 = true ↔ txOf e = z := by
  obtain ⟨y, tk, rfl⟩ := h
  constructor
  · intro q
    obtain ⟨u, e⟩ := Value.isStrOf_shape (show Value.isStrOf z (.str y tk) = true from q)
    cases e
    rfl
  · intro q
    cases q
    exact strKind_is P w _ tk
theorem tx_perm {L : List Str} {es es' : Array (Int × Value)} {t t' : SetTable} (r : TxRaw P w L es t) (p : es'.toList.Perm es.toList) (f : t'.fits es'.size = true) (u : Ris t'.place.toList) (l : t'.led = t.led) : TxRaw P w L es' t' :=
  ⟨fun e he => r.each e (p.mem_iff.mp he), (p.map txOf).trans r.perm, r.nd, r.few, f, u, r.led.imp id fun z => l.trans z⟩
theorem tx_size {L : List Str} {es : Array (Int × Value)} {t : SetTable} (r : TxRaw P w L es t) : es.size = L.length := by
  have := r.perm.length_eq
  rw [List.length_map, Array.length_toList] at this
  exact this
/-- what is stored when a text is new -/
theorem tx_tail {gw : Bool → Sem Unit} (quiet : ∀ (b : Bool) (s₁ : Shared) (Q' : Unit → Shared → Prop), Q' () s₁ → wpAny (model P w) A (gw b) Q' E s₁) {a : Addr} {o : Obj} {es es1 : Array (Int × Value)} {ep : Nat} {t t2 : SetTable} {L : List Str} {b : Bool} {Q : Option Bool → Shared → Prop} (ho : s.heap.get? a = some o) (hx : o.ExactSet) (hd : o.data = .set es ep t) (r : TxRaw P w L es1 t2)
    (fin : ∀ h', Heap.SameBut a s.heap h' → TxSet P w h' a L → Q (some true) { s with heap := h' }) :
    wpAny (model P w) A (storeSet a es1 t2 >>= fun _ => if (!b && t2.tooFull) = true then gw (relayAll t2 es1 (SetTable.grown es1.size)).2.2 >>= fun _ => storeSet a (relayAll t2 es1 (SetTable.grown es1.size)).1 (relayAll t2 es1 (SetTable.grown es1.size)).2.1 >>= fun _ => pure (some true) else pure (some true)) Q E s := by
  have few1 : es1.size < scanBound := by rw [tx_size r]; exact r.few
  refine wpAny_bind (wpAny_storeSet_of ho hd ?_ (fits_of_scanBound few1))
  have o1 := store_at (es' := es1) (t' := t2) ho hd
  have same1 := Heap.SameBut.update s.heap a (Obj.putSet es1 t2)
  by_cases c : (!b && t2.tooFull) = true
  · refine wp_if_pos c ?_
    have q := tx_perm r (relayAll_perm t2 es1 (SetTable.grown es1.size)) (relayAll_fits t2 es1 (SetTable.grown es1.size)) (relayAll_ris t2 es1 (SetTable.grown es1.size)) (relayAll_led t2 es1 (SetTable.grown es1.size))
    generalize relayAll t2 es1 (SetTable.grown es1.size) = Z at q ⊢
    obtain ⟨es2, t3, gave⟩ := Z
    have few2 : es2.size < scanBound := by rw [tx_size q]; exact q.few
    dsimp only
    refine wpAny_bind (quiet _ _ _ ?_)
    refine wpAny_bind (wpAny_storeSet_of o1 rfl ?_ (fits_of_scanBound few2))
    have o2 := store_at (es' := es2) (t' := t3) o1 rfl
    exact wpAny_pure (fin _ (same1.trans (Heap.SameBut.update _ a _)) ⟨_, es2, _, t3, o2, hx, rfl, q⟩)
  · refine wp_if_neg c ?_
    exact wpAny_pure (fin _ same1 ⟨_, es1, _, t2, o1, hx, rfl, r⟩)
theorem tx_add {a : Addr} {L : List Str} {z : Str} {tk : Tok} {Q : Bool → Shared → Prop} (x : TxSet P w s.heap a L) (room : L.length + 1 < scanBound) (old : z ∈ L → Q false s)
    (new : z ∉ L → ∀ h', Heap.SameBut a s.heap h' → TxSet P w h' a (z :: L) → Q true { s with heap := h' }) : wpAny (model P w) A (setAddHashed a (.str z tk) ((strKind P w).hash z)) Q E s := by
  obtain ⟨o, es, ep, t, ho, hx, hd, r⟩ := x
  have few1 : es.size < scanBound := by rw [tx_size r]; exact r.few
  have el := tx_elems r.each
  have isz := strKind_is P w z tk
  have mem : z ∈ L ↔ ∃ e ∈ es.toList, (strKind P w).is z e.2 = true := by
    rw [← r.perm.mem_iff, List.mem_map]
    exact ⟨fun ⟨e, h1, h2⟩ => ⟨e, h1, (tx_is (r.each e h1) z).mpr h2⟩, fun ⟨e, h1, h2⟩ => ⟨e, h1, (tx_is (r.each e h1) z).mp h2⟩⟩
  unfold setAddHashed setAddHashedIn
  refine wpAny_holding (wpAny_bind (wpAny_setState_of ho hd r.fit ?_))
  dsimp only
  rw [byScan_of (x := .str z tk) rfl few1 el]
  simp only [↓reduceIte]
  unfold setAddByScan
  refine wpAny_bind ?_
  refine wpAny_bind (wpAny_rule (wpAny_bind (wpAny_setScan_of isz ho hd r.fit el ?_)))
  cases c : List.findIdx? (fun e => (strKind P w).is z e.2) es.toList with
  | some j =>
    obtain ⟨j1, j2, _⟩ := List.findIdx?_eq_some_iff_getElem.mp c
    exact wpAny_pure (wpAny_pure (old (mem.mpr ⟨_, List.getElem_mem j1, j2⟩)))
  | none =>
    have nz : z ∉ L := fun q => by
      obtain ⟨e, h1, h2⟩ := mem.mp q
      have := List.findIdx?_eq_none_iff.mp c e h1
      rw [h2] at this
      cases this
    have p := layNew_perm t es ((strKind P w).hash z) (.str z tk)
    have f := layNew_fits t es ((strKind P w).hash z) (.str z tk)
    have u := layNew_ris t es ((strKind P w).hash z) (.str z tk) r.ris
    have l := layNew_led t es ((strKind P w).hash z) (.str z tk)
    generalize layNew t es ((strKind P w).hash z) (.str z tk) = Z at p f u l ⊢
    obtain ⟨es1, t1, dm, gave⟩ := Z
    dsimp only at p f u l ⊢
    rw [Array.toList_push] at p
    have p2 : es1.toList.Perm (((strKind P w).hash z, Value.str z tk) :: es.toList) := p.trans (List.perm_append_singleton _ _)
    have raw : TxRaw P w (z :: L) es1 t1 := ⟨fun e he => by
      rcases List.mem_cons.mp (p2.mem_iff.mp he) with h | h
      · exact ⟨z, tk, h⟩
      · exact r.each e h, (p2.map txOf).trans (r.perm.cons z), List.nodup_cons.mpr ⟨nz, r.nd⟩, room, f, u, r.led.imp id fun z => l.trans z⟩
    have raw2 : TxRaw P w (z :: L) es1 { t1 with plain := false } := ⟨raw.each, raw.perm, raw.nd, raw.few, SetTable.fits_plain_off f, u, raw.led⟩
    have fin : ∀ h', Heap.SameBut a s.heap h' → TxSet P w h' a (z :: L) → Q true { s with heap := h' } := new nz
    refine wpAny_bind ?_
    have hushed : ∀ (b : Bool) (s₁ : Shared) (Q' : Unit → Shared → Prop), Q' () s₁ → wpAny (model P w) A (match b with | true => rule "set.scan.the-table-gave-way" | false => pure ()) Q' E s₁ := fun b s₁ Q' q => by
      cases b
      · exact wpAny_pure q
      · exact wpAny_rule q
    refine hushed gave _ _ ?_
    by_cases pl : t1.plain = true
    · refine wp_if_pos pl (wpAny_bind ?_)
      rw [hashByValue_scannable 8 (x := Value.str z tk) rfl]
      refine wpAny_pure (tx_tail hushed ho hx hd (L := z :: L) ?_ fun h' sb q => wpAny_pure (fin h' sb q))
      split
      · exact raw
      · exact raw2
    · refine wp_if_neg pl (wpAny_bind (wpAny_pure (tx_tail hushed ho hx hd (L := z :: L) ?_ fun h' sb q => wpAny_pure (fin h' sb q))))
      exact raw
end
end SWL
set_option Elab.async false
set_option linter.all false
set_option maxRecDepth 100000
set_option maxHeartbeats 4000000
namespace SWL
open PySem PySem.Spec PyProof.Rows L2 LamX
theorem sub_str_set : isSubtype (.type "str") (.type "set") = pure false := by rw [isSubtype_type]; kernel_rfl
theorem sub_str_frz : isSubtype (.type "str") (.type "frozenset") = pure false := by rw [isSubtype_type]; kernel_rfl
section
variable {P : Program} {w : World} {A : Around} {E : Value → Shared → Prop} {s : Shared}
/-- the signs of a text, each once -/
def SignsOf (cs : List Nat) (L : List Str) : Prop := ∀ x, x ∈ L ↔ ∃ c ∈ cs, x = (⟨#[c]⟩ : Str)
theorem tx_fill {z : Str} {t : Tok} {Q : Value → Shared → Prop} (hh : A.handled = none) (few : z.length + 1 < scanBound)
    (q : ∀ (h' : Heap) (tk : Nat) (L : List Str), TxSet P w h' s.heap.objs.size L → SignsOf z.cps.toList L → (∀ b o, s.heap.get? b = some o → h'.get? b = some o) → Q (.ref s.heap.objs.size) { s with heap := h', toks := tk }) :
    wpAny (model P w) A (call (.type "set") [.str z t]) Q E s := by
  refine set_by fun A' E' hA _ => ?_
  have hh' : A'.handled = none := hA.trans hh
  have hS : (s.heap.push (set0 w)).get? s.heap.objs.size = some (set0 w) := Heap.get?_push_size _ rfl
  have n1 := sub_str_set
  have n2 := sub_str_frz
  unfold Builtin.Frozenset.updateFrom
  generalize hPI : pyIter = PI
  wp_walk
  subst hPI
  refine wpAny_pyIter_str fun o St W st0 => ?_
  refine wpAny_bind (wpAny_runValue ?_)
  have sz1 : (s.heap.push (set0 w)).objs.size = s.heap.objs.size + 1 := size_push' _ _
  have away : s.heap.objs.size ∉ [(s.heap.push (set0 w)).objs.size] := fun h => by
    have := List.mem_singleton.mp h
    omega
  have up : ∀ b u, s.heap.get? b = some u → ((s.heap.push (set0 w)).push o).get? b = some u := fun b u e => Heap.get?_push_of_some _ (Heap.get?_push_of_some _ e)
  have lt : ∀ b u, s.heap.get? b = some u → b ≠ s.heap.objs.size ∧ b ≠ (s.heap.push (set0 w)).objs.size := fun b u e => by
    have h := Heap.lt_size e
    exact ⟨Nat.ne_of_lt h, Nat.ne_of_lt (by rw [sz1]; exact Nat.lt_succ_of_lt h)⟩
  refine fill_loop (P := P) (w := w) (A := A') (n := z.cps.size) (W A'.in1 hh').toS away (fun i h => ∃ L, TxSet P w h s.heap.objs.size L ∧ SignsOf (z.cps.toList.take i) L ∧ L.length ≤ i)
    (fun i h h' ⟨L, x, g, l⟩ k => ⟨L, x.at fun u e => k _ u away e, g, l⟩) ?_ z.cps.size 0 _ (by omega) st0 ⟨[], .new (Heap.get?_push_of_some _ hS), fun x => by simp, Nat.le_refl _⟩ ?_
  · rintro i v s0 Q' E2 hi ⟨c, u, hc, rfl⟩ ⟨L, x, g, l⟩ q'
    have hc' : z.cps.toList[i]? = some c := by rw [Array.getElem?_toList]; exact hc
    have ht : z.cps.toList.take (i + 1) = z.cps.toList.take i ++ [c] := take_snoc hc'
    have zl : z.length = z.cps.size := rfl
    unfold setAdd
    refine wpAny_holding (wpAny_bind ((PySem.strKind P w).pyHash (strKind_is P w ⟨#[c]⟩ u) ?_))
    refine tx_add (s := { s0 with toks := s0.toks + 1 }) x (by omega) (fun m => ?_) fun nm h' sb y => ?_
    · refine q' false s0.heap (s0.toks + 1) (Nat.le_succ _) (Heap.SameBut.refl _ _) ⟨L, x, fun y => ?_, by omega⟩
      rw [g y, ht]
      constructor
      · rintro ⟨d, hd, e⟩
        exact ⟨d, List.mem_append_left _ hd, e⟩
      · rintro ⟨d, hd, e⟩
        rcases List.mem_append.mp hd with h | h
        · exact ⟨d, h, e⟩
        · rw [List.mem_singleton.mp h] at e
          rw [e]
          exact (g _).mp m
    · refine q' true h' (s0.toks + 1) (Nat.le_succ _) sb ⟨_, y, fun y => ?_, by rw [List.length_cons]; omega⟩
      rw [List.mem_cons, g y, ht]
      constructor
      · rintro (e | ⟨d, hd, e⟩)
        · exact ⟨c, by simp, e⟩
        · exact ⟨d, List.mem_append_left _ hd, e⟩
      · rintro ⟨d, hd, e⟩
        rcases List.mem_append.mp hd with h | h
        · exact .inr ⟨d, h, e⟩
        · rw [List.mem_singleton.mp h] at e
          exact .inl e
  · rintro s' mv ⟨L, x, g, l⟩
    obtain ⟨h', g', d', tk', os'⟩ := s'
    obtain rfl : g' = s.gens := mv.gens
    obtain rfl : d' = s.drawn := mv.drawn
    obtain rfl : os' = s.os := mv.os
    have et : z.cps.toList.take z.cps.size = z.cps.toList := List.take_of_length_le (by rw [Array.length_toList]; exact Nat.le_refl _)
    rw [et] at g
    refine wpAny_pure ?_
    exact q h' tk' L x g fun b u e => mv.heap b u (fun hm => by
      rcases List.mem_cons.mp hm with h | h
      · exact (lt b u e).1 h
      · exact (lt b u e).2 (List.mem_singleton.mp h)) (up b u e)
/-- one-sign texts in order, each once -/
theorem signs_rise : ∀ cs : List Nat, sortedS (cs.map fun c => (⟨#[c]⟩ : Str)) = true → (cs.map fun c => (⟨#[c]⟩ : Str)).Nodup → cs.Pairwise (· < ·) := by
  have one : ∀ c d : Nat, ltCps [c] [d] = decide (c < d) := fun c d => by
    unfold ltCps
    cases h : decide (c < d)
    · show (false || (c == d && ltCps [] [])) = false
      simp [ltCps]
    · rfl
  have gen : ∀ (cs : List Nat) (p : Nat), risingS ⟨#[p]⟩ (cs.map fun c => (⟨#[c]⟩ : Str)) = true → (⟨#[p]⟩ : Str) ∉ (cs.map fun c => (⟨#[c]⟩ : Str)) → (cs.map fun c => (⟨#[c]⟩ : Str)).Nodup → (∀ c ∈ cs, p < c) ∧ cs.Pairwise (· < ·) := by
    intro cs
    induction cs with
    | nil => intro p _ _ _; exact ⟨fun c hc => (by cases hc), .nil⟩
    | cons c cs ih =>
      intro p h np nd
      rw [List.map_cons] at h np nd
      unfold risingS at h
      rw [Bool.and_eq_true] at h
      obtain ⟨h1, h2⟩ := h
      obtain ⟨nd1, nd2⟩ := List.nodup_cons.mp nd
      obtain ⟨a1, a2⟩ := ih c h2 nd1 nd2
      have pc : p < c := by
        have e : (!ltCps [c] [p]) = true := h1
        rw [one] at e
        have ne : p ≠ c := fun z => np (by rw [z]; exact List.mem_cons_self)
        simp at e
        omega
      refine ⟨fun d hd => ?_, List.pairwise_cons.mpr ⟨a1, a2⟩⟩
      rcases List.mem_cons.mp hd with rfl | hd
      · exact pc
      · exact Nat.lt_trans pc (a1 d hd)
  intro cs h nd
  cases cs with
  | nil => exact .nil
  | cons c cs =>
    obtain ⟨nd1, nd2⟩ := List.nodup_cons.mp nd
    obtain ⟨a1, a2⟩ := gen cs c h nd1 nd2
    exact List.pairwise_cons.mpr ⟨a1, a2⟩
end
theorem len_within {α : Type} [DecidableEq α] : ∀ (l D : List α), l.Nodup → (∀ x ∈ l, x ∈ D) → l.length ≤ D.length
  | [], _, _, _ => Nat.zero_le _
  | x :: l, D, nd, h => by
    obtain ⟨h1, h2⟩ := List.nodup_cons.mp nd
    have hx := h x List.mem_cons_self
    have := len_within l (D.erase x) h2 fun y hy => (List.mem_erase_of_ne fun e : y = x => h1 (e ▸ hy)).mpr (h y (List.mem_cons_of_mem _ hy))
    rw [List.length_erase_of_mem hx] at this
    have := List.length_pos_of_mem hx
    rw [List.length_cons]
    omega
def TxO (P : Program) (w : World) (a : Addr) (L : List Str) : HO := .ext fun h => TxSet P w h a L
theorem txO_new {P : Program} {w : World} {H : Hp} {h : Heap} {a : Addr} {L : List Str} (x : TxSet P w h a L) : ObjOk P w H h a (TxO P w a L) :=
  ⟨x, (by obtain ⟨o, _, _, _, ho, _⟩ := x; exact ⟨o, ho⟩), fun _ _ y k => TxSet.at y k⟩
section
variable {X : Cx}
/-- set(text) -/
def rSetTx (P : Program) (w : World) : List V → Hp → VK → Prop := fun xs H Q => ∃ z, xs = [.str z] ∧ z.length + 1 < scanBound ∧ ∀ p L, H p = none → L.Nodup → SignsOf z.cps.toList L → Q (.ref p) (upd H p (TxO P w p L))
theorem cr_setTx (hc : X.calm = true) : CallR X (.type "set") (rSetTx X.prog X.w) := by
  intro pins s σ H xs us Q I r h
  obtain ⟨z, rfl, few, q⟩ := h
  cases r with
  | cons r1 rs =>
    cases rs
    obtain ⟨t, rfl⟩ := r1
    refine tx_fill (I.ok.hd hc) few fun h' tk L x g k => ?_
    have nd : L.Nodup := by obtain ⟨_, _, _, _, _, _, _, r⟩ := x; exact r.nd
    exact ⟨.ref s.heap.objs.size, _, I.laid (t' := tk) k (Nat.le_refl _) (txO_new x), rfl, q _ L (I.hok.fresh (Nat.le_refl _)) nd g⟩
/-- sorted(set(text)) -/
def rSortTx (P : Program) (w : World) : List V → Hp → VK → Prop := fun xs H Q => ∃ a zs L, xs = [.ref a] ∧ H a = some (TxO P w a L) ∧ SignsOf zs L ∧ L.length < 64 ∧
  ∀ (cs : List Nat) p, cs.Pairwise (· < ·) → (∀ c, c ∈ cs ↔ c ∈ zs) → H p = none → Q (.ref p) (upd H p (.lst (cs.map fun c => .str ⟨#[c]⟩)))
def strV (v : Value) : Str := match v with
  | .str z _ => z
  | _ => ""
theorem strs_are : ∀ {vs : List Value}, (∀ v ∈ vs, ∃ z tk, v = Value.str z tk) → StrsAre vs (vs.map strV)
  | [], _ => .nil
  | v :: vs, h => by
    obtain ⟨z, tk, rfl⟩ := h v List.mem_cons_self
    exact .cons z tk (strs_are fun y hy => h y (List.mem_cons_of_mem _ hy))
theorem cr_sortedTx (hc : X.calm = true) : CallR X (.builtin "sorted") (rSortTx X.prog X.w) := by
  intro pins s σ H xs us Q I r h
  obtain ⟨a, zs, L, rfl, ha, g, few, q⟩ := h
  rw [Vals.ref1 r]
  obtain ⟨o, es, ep, t, ho, hx, hd, raw⟩ := (show ObjOk X.prog X.w H s.heap a (TxO X.prog X.w a L) from I.hok _ _ ha).1
  have n1 : es.size = L.length := tx_size raw
  refine Calls.call_function_entry kind_sorted plain_sorted entry_sorted (args_sorted1 _) ?_
  unfold Builtin.«sorted»
  refine wpAny_bind (m := checkCount "sorted" 1 1 _) (wpAny_pure ?_)
  refine wpAny_bind (collect_set (A := X.A.in1) (I.ok.hd hc) ⟨o, ho, hx.1, hd⟩ raw.fit (by rw [n1]; exact raw.few) raw.ris raw.led fun s1 vs up sz g1 o1 pm => ?_)
  have each : ∀ v ∈ vs, ∃ z tk, v = Value.str z tk := fun v hv => by
    obtain ⟨e, he, q⟩ := List.mem_map.mp (pm.mem_iff.mp hv)
    obtain ⟨z, tk, rfl⟩ := raw.each e he
    exact ⟨z, tk, q.symm⟩
  have hS := strs_are each
  have p1 : (vs.map strV).Perm L := by
    have e := pm.map strV
    rw [List.map_map] at e
    exact e.trans raw.perm
  have n2 : vs.length = L.length := by rw [← p1.length_eq, List.length_map]
  refine wpAny_bind (wpAny_newList ?_ (by rw [n2, sizeLine_eq]; omega))
  have at1 : (s1.heap.push (seqObj "list" vs.toArray 0)).get? s1.heap.objs.size = some (seqObj "list" vs.toArray 0) := Heap.get?_push_size _ rfl
  refine wpAny_bind (wpAny_holding (wpAny_call_entry slot_list_sort ⟨_, at1, rfl⟩ entry_list_sort (list_sort_treeK strKind_oneLt at1 hS.keysOf (fun v₁ v₂ rest e => keyKind_strs (by rw [← e]; exact hS)) (by rw [n2]; exact few) fun st hp hs => ?_) (args_list_sort _)))
  obtain ⟨ys, b1, b2, b3⟩ := sorted_out_str hS hp hs
  obtain ⟨c, at2⟩ := sortedHeap_at (vs := vs) (out := (arrOf st).map (·.2)) at1
  have p2 : ys.Perm L := b2.trans p1
  obtain ⟨cs, rfl⟩ : ∃ cs : List Nat, ys = cs.map fun c => (⟨#[c]⟩ : Str) := by
    have : ∀ l : List Str, (∀ y ∈ l, ∃ c : Nat, y = (⟨#[c]⟩ : Str)) → ∃ cs : List Nat, l = cs.map fun c => (⟨#[c]⟩ : Str) := by
      intro l
      induction l with
      | nil => intro _; exact ⟨[], rfl⟩
      | cons y l ih =>
        intro h
        obtain ⟨c, rfl⟩ := h y List.mem_cons_self
        obtain ⟨cs, rfl⟩ := ih fun z hz => h z (List.mem_cons_of_mem _ hz)
        exact ⟨c :: cs, rfl⟩
    exact this ys fun y hy => by
      obtain ⟨c, _, e⟩ := (g y).mp (p2.mem_iff.mp hy)
      exact ⟨c, e⟩
  have rise := signs_rise cs b3 (p2.nodup_iff.mpr raw.nd)
  have mem : ∀ c, c ∈ cs ↔ c ∈ zs := fun c => by
    constructor
    · intro hc
      obtain ⟨d, hd, e⟩ := (g _).mp (p2.mem_iff.mp (List.mem_map.mpr ⟨c, hc, rfl⟩))
      cases e
      exact hd
    · intro hc
      obtain ⟨d, hd, e⟩ := List.mem_map.mp (p2.mem_iff.mpr ((g ⟨#[c]⟩).mpr ⟨c, hc, rfl⟩))
      cases e
      exact hd
  have ll : (cs.map fun c => V.str ⟨#[c]⟩).length ≤ sizeLine := by
    have := p2.length_eq
    rw [List.length_map] at this ⊢
    rw [this, sizeLine_eq]
    omega
  have hv : Vals (cs.map fun c => V.str ⟨#[c]⟩) ((arrOf st).map (·.2)).toList := by
    have e := vals_of_strs b1
    rw [List.map_map] at e
    exact e
  have old : ∀ b u, s.heap.get? b = some u → (sortedHeap (s1.heap.push (seqObj "list" vs.toArray 0)) s1.heap.objs.size vs ((arrOf st).map (·.2))).get? b = some u := fun b u e => by
    have h1 := up b u e
    have h2 := Heap.lt_size h1
    exact (sortedHeap_old (Nat.ne_of_lt h2) (by rw [size_push']; exact Nat.lt_succ_of_lt h2)).trans (Heap.get?_push_of_some _ h1)
  have fresh : H s1.heap.objs.size = none := I.hok.fresh sz
  have newO : ObjOk X.prog X.w (upd H s1.heap.objs.size (.lst (cs.map fun c => V.str ⟨#[c]⟩))) (sortedHeap (s1.heap.push (seqObj "list" vs.toArray 0)) s1.heap.objs.size vs ((arrOf st).map (·.2))) s1.heap.objs.size (.lst (cs.map fun c => V.str ⟨#[c]⟩)) := ⟨ll, _, c, hv, at2⟩
  refine ⟨_, rfl, wpAny_pure ⟨_, rfl, .ref s1.heap.objs.size, upd H s1.heap.objs.size (.lst (cs.map fun c => V.str ⟨#[c]⟩)), ?_, rfl, q cs _ rise mem fresh⟩⟩
  refine I.call' (ch := []) o1 (Un.laid old sz fresh) (I.hok.laid old sz newO) ?_ (fun _ z => nomatch z)
  show AllBare s1.gens
  rw [g1]
  exact I.bare
end
end SWL
set_option Elab.async false
set_option linter.all false
set_option maxRecDepth 100000
set_option maxHeartbeats 4000000
namespace SWL
open PySem PySem.Spec PyProof.Rows L2 LamX
/-! dicts whose keys are nested tuples of numbers and texts -/
mutual
inductive NkAt (H : Hp) : V → NestedKey → Prop
  | int (i : Int) : NkAt H (.int i) (.num i)
  | str (z : Str) : NkAt H (.str z) (.text z)
  | tup {a : Addr} {xs : List V} {ks : List NestedKey} : H a = some (.tup xs) → NkAll H xs ks → NkAt H (.ref a) (.tup ks)
inductive NkAll (H : Hp) : List V → List NestedKey → Prop
  | nil : NkAll H [] []
  | cons {x : V} {k : NestedKey} {xs : List V} {ks : List NestedKey} : NkAt H x k → NkAll H xs ks → NkAll H (x :: xs) (k :: ks)
end
mutual
theorem NkAt.keep {H H' : Hp} (g : ∀ b xs, H b = some (.tup xs) → H' b = some (.tup xs)) : ∀ (k : NestedKey) {x : V}, NkAt H x k → NkAt H' x k
  | _, _, .int i => .int i
  | _, _, .str z => .str z
  | .tup ks, _, .tup h t => .tup (g _ _ h) (NkAll.keep g ks t)
theorem NkAll.keep {H H' : Hp} (g : ∀ b xs, H b = some (.tup xs) → H' b = some (.tup xs)) : ∀ (ks : List NestedKey) {xs : List V}, NkAll H xs ks → NkAll H' xs ks
  | _, _, .nil => .nil
  | k :: ks, _, .cons h t => .cons (NkAt.keep g k h) (NkAll.keep g ks t)
end
section
variable {X : Cx} {pins : List (Addr × Obj)} {σ : L2.St} {H : Hp} {s : Shared}
mutual
theorem nk_is (I : Inv X pins σ H s) : ∀ (k : NestedKey) {x : V} {u : Value}, NkAt H x k → RelV x u → NestedIs s.heap k u
  | _, _, _, .int i, r => by obtain ⟨t, rfl⟩ := r; exact .int i t
  | _, _, _, .str z, r => by obtain ⟨t, rfl⟩ := r; exact .text z t
  | .tup ks, _, _, @NkAt.tup _ a xs _ h t, r => by
    cases r
    obtain ⟨_, its, rv, o, ho, hc, n, hd⟩ := (show ObjOk X.prog X.w H s.heap a (.tup xs) from I.hok _ _ h)
    exact .tup ho hc hd (by rw [List.toList_toArray]; exact nk_all I ks t rv)
theorem nk_all (I : Inv X pins σ H s) : ∀ (ks : List NestedKey) {xs : List V} {us : List Value}, NkAll H xs ks → Vals xs us → NestedAll s.heap ks us
  | _, _, _, .nil, r => by cases r; exact .nil
  | k :: ks, _, _, .cons h t, r => by
    cases r with
    | cons r1 r2 => exact .cons (nk_is I k h r1) (nk_all I ks t r2)
end
abbrev NRow := NestedKey × Addr × V
abbrev NRaw := NestedKey × Addr × Value
def RowIs (r : NRow) (x : NRaw) : Prop := r.1 = x.1 ∧ r.2.1 = x.2.1 ∧ RelV r.2.2 x.2.2
def NdRaw (P : Program) (w : World) (a : Addr) (xs : List NRaw) (h : Heap) : Prop := ∃ o es ep, h.get? a = some o ∧ o.ExactDict ∧ o.data = .dict es ep ∧ es.toList = xs.map (entryOfKey (nestedKind P w)) ∧ (xs.map (·.1)).Nodup
def NdAt (P : Program) (w : World) (a : Addr) (rows : List NRow) (h : Heap) : Prop := (a == sysModules) = false ∧ rows.length ≤ sizeLine ∧ ∃ xs, Paired RowIs rows xs ∧ NdRaw P w a xs h
/-- the dict at a, its rows: key, the key's place, value -/
def NDO (P : Program) (w : World) (a : Addr) (rows : List NRow) : HO := .ext fun h => NdAt P w a rows h
theorem nd_new {P : Program} {w : World} {H : Hp} {h : Heap} {a : Addr} {rows : List NRow} (x : NdAt P w a rows h) : ObjOk P w H h a (NDO P w a rows) := by
  refine ⟨x, (by obtain ⟨_, _, _, _, o, _, _, e, _⟩ := x; exact ⟨o, e⟩), fun h1 h2 y k => ?_⟩
  obtain ⟨y1, y2, xs, r, o, es, ep, e, c⟩ := (show NdAt P w a rows h1 from y)
  exact ⟨y1, y2, xs, r, o, es, ep, k _ e, c⟩
def KeysAt (H : Hp) (rows : List NRow) : Prop := ∀ r ∈ rows, NkAt H (.ref r.2.1) r.1 ∧ r.1.depth ≤ 8
theorem nd_dict (I : Inv X pins σ H s) {a : Addr} {rows : List NRow} (e : H a = some (NDO X.prog X.w a rows)) (ks : KeysAt H rows) : (a == sysModules) = false ∧ rows.length ≤ sizeLine ∧ ∃ xs, Paired RowIs rows xs ∧ s.heap.DictOfH (nestedKind X.prog X.w) a xs := by
  obtain ⟨y1, y2, xs, r, o, es, ep, e1, e2, e3, e4, e5⟩ := (show NdAt X.prog X.w a rows s.heap from (I.hok _ _ e).1)
  refine ⟨y1, y2, xs, r, o, es, ep, e1, e2, e3, e4, ?_, e5⟩
  have key : ∀ {rows : List NRow} {xs : List NRaw}, Paired RowIs rows xs → KeysAt H rows → ∀ x ∈ xs, (nestedKind X.prog X.w).is s.heap x.1 x.2.1 := by
    intro rows xs r
    induction r with
    | nil => intro _ x hx; cases hx
    | @cons p q _ _ h _ ih =>
      intro ks x hx
      rcases List.mem_cons.mp hx with rfl | hx
      · obtain ⟨k1, k2⟩ := ks p List.mem_cons_self
        obtain ⟨h1, h2, _⟩ := h
        rw [← h1, ← h2]
        exact ⟨nk_is I _ k1 rfl, k2⟩
      · exact ih (fun r hr => ks r (List.mem_cons_of_mem _ hr)) x hx
  exact key r ks
/-- {} -/
def tDNewN (P : Program) (w : World) : TE := fun _ H Q => ∀ p, H p = none → Q (.ref p) (upd H p (NDO P w p []))
def valN (rows : List NRow) (k : NestedKey) : Option V := (rows.find? fun r => decide (r.1 = k)).map (·.2.2)
theorem val_at {k : NestedKey} : ∀ {rows : List NRow} {xs : List NRaw}, Paired RowIs rows xs → (valN rows k = none ∧ atKey xs k = none) ∨ ∃ v p, valN rows k = some v ∧ atKey xs k = some p ∧ RelV v p.2 := by
  intro rows xs r
  induction r with
  | nil => exact .inl ⟨rfl, rfl⟩
  | @cons p q ps qs h _ ih =>
    obtain ⟨h1, h2, h3⟩ := h
    unfold valN atKey at ih ⊢
    by_cases c : p.1 = k
    · have c2 : q.1 = k := h1.symm.trans c
      rw [List.find?_cons_of_pos (by exact decide_eq_true c), List.find?_cons_of_pos (by exact decide_eq_true c2)]
      exact .inr ⟨p.2.2, q.2, rfl, rfl, h3⟩
    · have c2 : ¬ q.1 = k := fun z => c (h1.trans z)
      rw [List.find?_cons_of_neg (by simpa using c), List.find?_cons_of_neg (by simpa using c2)]
      exact ih
theorem paired_snoc {α β : Type} {R : α → β → Prop} : ∀ {l : List α} {m : List β} {a : α} {b : β}, Paired R l m → R a b → Paired R (l ++ [a]) (m ++ [b])
  | _, _, _, _, .nil, h => .cons h .nil
  | _, _, _, _, .cons r t, h => .cons r (paired_snoc t h)
end
theorem paired_len {α β : Type} {R : α → β → Prop} : ∀ {l : List α} {m : List β}, Paired R l m → l.length = m.length
  | _, _, .nil => rfl
  | _, _, .cons _ t => by rw [List.length_cons, List.length_cons, paired_len t]
theorem nd_empty {P : Program} {w : World} (h : Heap) (hb : sysModules < h.objs.size) : NdAt P w h.objs.size [] (h.push { cls := .type "dict", data := .dict #[] }) :=
  ⟨beq_eq_false_iff_ne.mpr fun z => Nat.ne_of_lt hb z.symm, Nat.zero_le _, [], .nil, _, #[], 0, Heap.get?_push_size _ rfl, ⟨rfl, rfl, rfl⟩, rfl, rfl, List.nodup_nil⟩
def rLenN (P : Program) (w : World) : List V → Hp → VK → Prop := fun xs H Q => ∃ a rows, xs = [.ref a] ∧ H a = some (NDO P w a rows) ∧ KeysAt H rows ∧ Q (.int (rows.length : Nat)) H
/-- what comes of it: the value that is there, or the new one, put in -/
def setdQ (P : Program) (w : World) (Q : VK) (rows : List NRow) (a b : Addr) (k : NestedKey) (z : V) (H : Hp) : Prop := (∀ v, valN rows k = some v → Q v H) ∧ (valN rows k = none → Q z (upd H a (NDO P w a (rows ++ [(k, b, z)]))))
theorem setd_one {P : Program} {w : World} {Q : VK} {rows : List NRow} {a b : Addr} {k : NestedKey} {z : V} {H : Hp} (R : V → Hp → Prop) (h : ∀ v Hx, R v Hx → Q v Hx) (h1 : ∀ v, valN rows k = some v → R v H) (h2 : valN rows k = none → R z (upd H a (NDO P w a (rows ++ [(k, b, z)])))) : setdQ P w Q rows a b k z H :=
  ⟨fun v hv => h _ _ (h1 v hv), fun hn => h _ _ (h2 hn)⟩
/-- d.setdefault(k, x) -/
def tNSetd (P : Program) (w : World) (td ty tx : TE) : TE := fun σ H Q => td σ H fun x H1 => ∃ a, x = .ref a ∧ (∃ rows, H1 a = some (NDO P w a rows)) ∧ ty σ H1 fun y H2 => tx σ H2 fun z H3 =>
  ∃ rows b k, H3 a = some (NDO P w a rows) ∧ KeysAt H3 rows ∧ y = .ref b ∧ NkAt H3 (.ref b) k ∧ k.depth ≤ 8 ∧ rows.length < sizeLine ∧ setdQ P w Q rows a b k z H3
section
variable {X : Cx} {pos : Pos}
theorem pe_dnewN : PE X (.Dict [] [] pos) (tDNewN X.prog X.w) := ⟨fun pins s σ H Q I q =>
  wpAny_Dict_empty ⟨V.ref s.heap.objs.size, _, I.laid (t' := s.toks) (fun b u e => Heap.get?_push_of_some _ e) (Nat.le_refl _) (nd_new (nd_empty s.heap I.big)), rfl, q _ (I.hok.fresh (Nat.le_refl _))⟩⟩
theorem cr_lenN : CallR X (.builtin "len") (rLenN X.prog X.w) := by
  intro pins s σ H xs us Q I r h
  obtain ⟨a, rows, rfl, ha, ks, q⟩ := h
  rw [Vals.ref1 r]
  obtain ⟨lo, z, xs, rel, dd⟩ := nd_dict I ha ks
  have hl := paired_len rel
  refine call_len_dictH lo dd (by rw [← hl]; rw [sizeLine_eq] at z; omega) ?_
  rw [← hl]
  exact ⟨.int (rows.length : Nat), H, I.tok _, ⟨_, rfl⟩, q⟩
theorem pe_dsetdN {o e f : Expr} {td ty tx : TE} {apos cpos : Pos} (hu : X.A.units + 16 < cLine) (ho : PE X o td) (he : PE X e ty) (hf : PE X f tx) (m : M2 X o "setdefault" apos e f cpos) : PE X (.Call (.Attribute o "setdefault" apos) [e, f] [] cpos) (tNSetd X.prog X.w td ty tx) := by
  refine ⟨fun pins s σ H Q I h => ?_⟩
  refine wpAny_Call_method m.base m.few m.line PySem.F.plainAttrs_dict PySem.F.slot_dict_setdefault PySem.F.type_dict_setdefault (thn (ho.run pins s σ H _ I h) fun u s1 ⟨x, H1, I1, rx, a, ex, ⟨rows0, d⟩, q1⟩ => ?_)
  subst ex
  cases rx
  obtain ⟨_, _, _, _, ob, es0, _, g1, g2, _⟩ := (show NdAt X.prog X.w a rows0 s1.heap from (I1.hok _ _ d).1)
  refine ⟨⟨ob, g1, g2.1⟩, fun b z => ?_, ?_⟩
  · cases z
    exact ⟨ob, g1, g2.2.1⟩
  rw [m.trees]
  refine Calls.callWith_builtin rfl (Calls.evalArgs_plain (Calls.spliced_cons (thn (he.run pins s1 σ H1 _ I1 q1) fun iv s2 ⟨y, H2, I2, ry, q2⟩ => Calls.spliced_cons (thn (hf.run pins s2 σ H2 _ I2 q2) fun fv s3 ⟨z, H3, I3, rz, rows, b, k, ea, ks, ey, nk, dep, few, qq⟩ => Calls.spliced_nil ?_))))
  obtain ⟨q3, q4⟩ := qq
  subst ey
  cases ry
  obtain ⟨lo, zl, xs, rel, dd⟩ := nd_dict I3 ea ks
  have hl := paired_len rel
  refine call_setdefault_heap (knd := nestedKind X.prog X.w) (k := k) (xs := xs) (by show X.A.in1.units + 8 < cLine; show X.A.units + 1 + 8 < cLine; omega) ⟨nk_is I3 k nk rfl, dep⟩ lo dd (fun p hp => ?_) (fun hn h' dd' sb => ?_) (by rw [← hl]; exact zl)
  · rcases val_at (k := k) rel with ⟨_, h2⟩ | ⟨v, p', h1, h2, h3⟩
    · rw [h2] at hp
      cases hp
    · rw [h2] at hp
      cases hp
      exact ⟨v, H3, I3.tok _, h3, q3 v h1⟩
  · rcases val_at (k := k) rel with ⟨h1, _⟩ | ⟨v, p', _, h2, _⟩
    · rw [storedH_new hn] at dd'
      obtain ⟨o', es, ep, e1, e2, e3, e4, _, e5⟩ := dd'
      have new : NdAt X.prog X.w a (rows ++ [(k, b, z)]) h' := ⟨lo, by rw [List.length_append]; exact few, xs ++ [(k, b, fv)], paired_snoc rel ⟨rfl, rfl, rz⟩, o', es, ep, e1, e2, e3, e4, e5⟩
      exact ⟨z, _, I3.write (e := a) (by rw [ea]; exact True.intro) (.inl rfl) (fun c u hc hu => (sb.2 c hc).trans hu) ⟨o', e1⟩ (nd_new new), rz, q4 h1⟩
    · rw [hn] at h2
      cases h2
end
end SWL
set_option Elab.async false
set_option linter.all false
set_option maxRecDepth 100000
set_option maxHeartbeats 4000000
namespace SWL
open PySem PySem.Spec PyProof.Rows L2 LamX
/-! two nested tuples, compared -/
def rEqN : R2 := fun x y H Q => ∃ ks ls, NkAt H x (.tup ks) ∧ NkAt H y (.tup ls) ∧ (NestedKey.tup ks).depth ≤ 64 ∧ Q (.bl (NestedKey.beq (.tup ks) (.tup ls))) H
section
variable {X : Cx}
theorem op_eqN (hu : X.A.units + 70 < cLine) : OpR X (compareOp .Eq) rEqN := by
  intro pins s σ H x y v u Q I rx ry h
  obtain ⟨ks, ls, h1, h2, dep, q⟩ := h
  have i1 := nk_is I _ h1 rx
  have i2 := nk_is I _ h2 ry
  cases i1 with
  | @tup a o vs n _ a1 a2 a3 a4 =>
    cases i2 with
    | @tup b o' ws m _ b1 b2 b3 b4 =>
      have n1 : vs.size = ks.length := by simpa using NestedAll.length _ _ a4
      have n2 : ws.size = ls.length := by simpa using NestedAll.length _ _ b4
      have dd : NestedKey.depthAll ks ≤ 64 := by
        have : NestedKey.depthAll ks + 1 ≤ 64 := dep
        omega
      refine PySem.SeqAt.eq_tupleAt ⟨_, a1, a2, _, a3⟩ ⟨_, b1, b2, _, b3⟩ (e := keyEqAt ks ls) (by omega) (fun j j1 j2 => ?_) ?_
      · have r : X.A.in1.units + min (NestedKey.depthAll ks) (NestedKey.depthAll ls) < cLine := by
          have : X.A.in1.units = X.A.units + 1 := rfl
          omega
        have e := eqAt_keys ks ls X.A.in1 s vs.toList ws.toList a4 b4 r j (by simpa using j1) (by simpa using j2)
        simpa using e
      · rw [n1, n2, beqAll_eq]
        exact ⟨.bl _, H, I.tok _, rfl, q⟩
end
end SWL
set_option Elab.async false
set_option linter.all false
set_option maxRecDepth 100000
set_option maxHeartbeats 4000000
namespace SWL
open PySem PySem.Spec PyProof.Rows L2 LamX
/-! sets of tuples of numbers and texts: the adding -/
abbrev MRow := Addr × List Key
abbrev mH (P : Program) (w : World) (k : List Key) : Int := tupleKeyHash (mixKind P w) k
abbrev IsM (P : Program) (w : World) (h : Heap) (k : List Key) (a : Addr) : Prop := IsTupleKey (mixKind P w) h k a
def rowsM (P : Program) (w : World) (L : List MRow) : List (Int × Value) := L.map fun p => (mH P w p.2, Value.ref p.1)
section
variable {P : Program} {w : World} {A : Around} {E : Value → Shared → Prop} {s : Shared}
theorem items_mix {k : List Key} {vs : List Value} (h : ItemsAre (mixKind P w) k vs) : ∀ v ∈ vs, (∃ i t, v = Value.int i t) ∨ ∃ z t, v = Value.str z t := by
  induction h with
  | nil => intro v hv; cases hv
  | @cons k0 v' ks vs h1 _ ih =>
    intro v hv
    rcases List.mem_cons.mp hv with e | hv
    · rcases keyIs_shape h1 with ⟨i, t, _, e2⟩ | ⟨x, t, _, e2⟩
      · rw [e]
        first
          | exact .inl ⟨i, t, e2⟩
          | (subst e2; exact .inl ⟨_, _, rfl⟩)
      · rw [e]
        first
          | exact .inr ⟨x, t, e2⟩
          | (subst e2; exact .inr ⟨_, _, rfl⟩)
    · exact ih v hv
theorem cls_item (n : Nat) {v : Value} (h : (∃ i t, v = Value.int i t) ∨ ∃ z t, v = Value.str z t) : ofAClassStatement n v = pure false := by
  rcases h with ⟨i, t, rfl⟩ | ⟨z, t, rfl⟩ <;> cases n <;> rfl
theorem cls_tup {k : List Key} {b : Addr} {Q : Bool → Shared → Prop} (hk : IsM P w s.heap k b) (h : Q false s) : wpAny (model P w) A (ofAClassStatement 8 (.ref b)) Q E s := by
  have hT := hk.typeIs
  obtain ⟨o, items, n, ho, _, hd, hi⟩ := hk
  unfold ofAClassStatement
  refine wpAny_bind (wpAny_typeOf hT ?_)
  dsimp only
  have e : (("tuple" : String) == "tuple") = true := by decide
  simp only [e, if_true, Bool.not_true, Bool.false_eq_true, if_false]
  try refine wpAny_bind (wpAny_pure ?_)
  try simp only [Bool.not_true, Bool.false_eq_true, if_false]
  show wpAny _ _ (seqItems? (.ref b) >>= _) _ _ s
  refine wpAny_bind (wpAny_seqItems ho hd ?_)
  dsimp only
  refine wpAny_bind ?_
  show wpAny _ _ (forIn items _ _) _ _ s
  rw [← Array.forIn_toList]
  refine wpAny_forIn_list _ (fun rest r s' => r.1 = none ∧ s' = s ∧ ∀ v ∈ rest, (∃ i t, v = Value.int i t) ∨ ∃ z t, v = Value.str z t) _ ?_ ?_ _ _ ⟨rfl, rfl, items_mix hi⟩
  · rintro v rest r s' ⟨hr, rfl, hall⟩
    rw [cls_item _ (hall v List.mem_cons_self)]
    refine wpAny_bind (wpAny_pure ?_)
    simp only [Bool.false_eq_true, if_false]
    exact wpAny_pure ⟨rfl, rfl, fun u hu' => hall u (List.mem_cons_of_mem _ hu')⟩
  · rintro ⟨r1, r2⟩ s' ⟨hr, rfl, _⟩
    simp only at hr
    subst hr
    exact wpAny_pure h
theorem val_item (n : Nat) {v : Value} (h : (∃ i t, v = Value.int i t) ∨ ∃ z t, v = Value.str z t) : ∃ b, hashByValue n v = pure b := by
  rcases h with ⟨i, t, rfl⟩ | ⟨z, t, rfl⟩
  · exact ⟨_, hashByValue_scannable n (x := .int i t) rfl⟩
  · exact ⟨_, hashByValue_scannable n (x := .str z t) rfl⟩
theorem val_tup {k : List Key} {b : Addr} {Q : Bool → Shared → Prop} (hk : IsM P w s.heap k b) (h : ∀ b, Q b s) : wpAny (model P w) A (hashByValue 8 (.ref b)) Q E s := by
  have hT := hk.typeIs
  obtain ⟨o, items, n, ho, _, hd, hi⟩ := hk
  unfold hashByValue
  refine wpAny_bind (wpAny_specialOf hT F.slot_tuple_hash.lookup ?_)
  show wpAny _ _ (seqItems? (.ref b) >>= _) _ _ s
  refine wpAny_bind (wpAny_seqItems ho hd ?_)
  refine wpAny_bind ?_
  show wpAny _ _ (forIn items _ _) _ _ s
  rw [← Array.forIn_toList]
  refine wpAny_forIn_list _ (fun rest r s' => s' = s ∧ ∀ v ∈ rest, (∃ i t, v = Value.int i t) ∨ ∃ z t, v = Value.str z t) _ ?_ ?_ _ _ ⟨rfl, items_mix hi⟩
  · rintro v rest r s' ⟨rfl, hall⟩
    obtain ⟨c, e⟩ := val_item 7 (hall v List.mem_cons_self)
    rw [e]
    refine wpAny_bind (wpAny_pure ?_)
    cases c with
    | true =>
      simp only [Bool.not_true, Bool.false_eq_true, if_false]
      exact wpAny_pure ⟨rfl, fun u hu' => hall u (List.mem_cons_of_mem _ hu')⟩
    | false =>
      simp only [Bool.not_false, if_true]
      exact wpAny_pure (wpAny_pure (h _))
  · rintro ⟨r1, r2⟩ s' ⟨rfl, _⟩
    cases r1 with
    | none => exact wpAny_pure (h _)
    | some b => exact wpAny_pure (h _)
theorem unseen {k : List Key} {b : Addr} {Q : Bool → Shared → Prop} (hk : IsM P w s.heap k b) {ys : List Value} (hy : ∀ y ∈ ys, ∃ k' c, y = Value.ref c ∧ IsM P w s.heap k' c) (h : Q false s) :
    wpAny (model P w) A (searchCouldBeSeen (.ref b) ys) Q E s := by
  unfold searchCouldBeSeen
  refine wpAny_bind ?_
  refine wpAny_forIn_list _ (fun rest r s' => r.1 = none ∧ s' = s ∧ ∀ y ∈ rest, ∃ k' c, y = Value.ref c ∧ IsM P w s.heap k' c) _ ?_ ?_ _ _ ⟨rfl, rfl, hy⟩
  · rintro v rest r s' ⟨hr, rfl, hall⟩
    obtain ⟨k', c, rfl, hc⟩ := hall v List.mem_cons_self
    have rest' : ∀ y ∈ rest, ∃ k' c, y = Value.ref c ∧ IsM P w s'.heap k' c := fun u hu' => hall u (List.mem_cons_of_mem _ hu')
    dsimp only
    by_cases hv : (b == c || (carriedByValue (.ref b) && carriedByValue (.ref c))) = true
    · exact wp_if_pos hv (wpAny_pure ⟨rfl, rfl, rest'⟩)
    · refine wp_if_neg hv ?_
      refine wpAny_bind (wpAny_eqIsQuiet_tuple hk ?_)
      simp only [Bool.not_true, Bool.false_eq_true, if_false]
      refine wpAny_bind (wpAny_eqIsQuiet_tuple hc ?_)
      simp only [Bool.not_true, Bool.false_eq_true, if_false]
      refine wpAny_bind (cls_tup hk ?_)
      simp only [Bool.false_eq_true, if_false]
      refine wpAny_bind (cls_tup hc ?_)
      simp only [Bool.false_eq_true, if_false]
      exact wpAny_pure ⟨rfl, rfl, rest'⟩
  · rintro ⟨r1, r2⟩ s' ⟨hr, rfl, _⟩
    simp only at hr
    subst hr
    exact wpAny_pure h
/-- the set at a, its rows in the table's sequence -/
structure MSet (P : Program) (w : World) (h : Heap) (a : Addr) (L : List MRow) (es : Array (Int × Value)) (ep : Nat) (t : SetTable) : Prop where
  ob : ∃ o, h.get? a = some o ∧ o.ExactSet ∧ o.data = .set es ep t
  rows : es.toList = rowsM P w L
  tab : TabOk t (L.map fun p => mH P w p.2)
  nd : (L.map (·.2)).Nodup
  tup : ∀ p ∈ L, IsM P w h p.2 p.1
  led : w.params.followText "set-order" = true ∨ t.led = true
  room : L.length * 5 < t.mask * 3
  few : L.length < 64
theorem rows_len {L : List MRow} {es : Array (Int × Value)} (h : es.toList = rowsM P w L) : es.size = L.length := by
  have h := congrArg List.length h
  unfold rowsM at h
  rw [Array.length_toList, List.length_map] at h
  exact h
theorem rows_get {L : List MRow} {es : Array (Int × Value)} (h : es.toList = rowsM P w L) {i : Nat} {p : MRow} (hp : L[i]? = some p) : es[i]? = some (mH P w p.2, Value.ref p.1) := by
  rw [← Array.getElem?_toList, h]
  unfold rowsM
  rw [List.getElem?_map, hp] <;> rfl
theorem tab_fits {hs : List Int} {t : SetTable} (T : TabOk t hs) {n : Nat} (hn : hs.length = n) (hm : n ≤ t.mask) : t.fits n = true := by
  have h1 := T.sz
  unfold SetTable.fits SetTable.fill
  rw [T.dm, Bool.and_eq_true, beq_iff_eq, decide_eq_true_eq]
  show t.place.size = n ∧ t.place.size + 0 ≤ t.mask
  omega
variable {a : Addr} {L : List MRow} {es : Array (Int × Value)} {ep : Nat} {t : SetTable}
theorem MSet.fits (R : MSet P w s.heap a L es ep t) : t.fits es.size = true := by
  have := R.room
  exact tab_fits R.tab (by rw [List.length_map, rows_len R.rows]) (by rw [rows_len R.rows]; omega)
theorem MSet.even (R : MSet P w s.heap a L es ep t) : ¬ t.gaveWay = true := by
  unfold SetTable.gaveWay
  rw [mask_odd R.tab.mok]
  decide
/-- the search from the c-th step of its way on -/
theorem seek (R : MSet P w s.heap a L es ep t) {x : Addr} {k : List Key} (hx : IsM P w s.heap k x) (hu : A.units < cLine) {K : Nat} (hKf : K < 10 * SetTable.turns t.mask)
    (hK : way t.mask (mH P w k) K ∉ t.place.toList) (hKb : ∀ c, c < K → way t.mask (mH P w k) c ∈ t.place.toList) {Q : SetFound → Shared → Prop}
    (hin : k ∈ L.map (·.2) → Q (.there none) s) (hout : k ∉ L.map (·.2) → Q (.free (way t.mask (mH P w k) K) false) s) :
    ∀ (f c : Nat) (stand : Option SetTable.Probe), stand.getD (t.probeStart (mH P w k)) = nth t.mask (runAt t.mask (SetTable.bits (mH P w k) % (t.mask + 1)) (SetTable.bits (mH P w k))) c → c ≤ K → K - c < f →
      (∀ (i : Nat) p, L[i]? = some p → p.2 = k → ∃ c', c ≤ c' ∧ c' < K ∧ t.place.toList[i]? = some (way t.mask (mH P w k) c')) →
      wpAny (model P w) A (setSearchFrom a (.ref x) (mH P w k) true f stand) Q E s
  | 0, c, stand, _, _, hf, _ => absurd hf (Nat.not_lt_zero _)
  | f + 1, c, stand, hst, hc, hf, hre => by
    obtain ⟨o, ho, hex, hd⟩ := R.ob
    generalize hB : runAt t.mask (SetTable.bits (mH P w k) % (t.mask + 1)) (SetTable.bits (mH P w k)) = B at hst
    have wB : ∀ q, way t.mask (mH P w k) q = (nth t.mask B q).j := fun q => by rw [← hB]
    rw [setSearchFrom_succ]
    refine wpAny_bind (wpAny_setState_of ho hd R.fits ?_)
    dsimp only
    refine wp_if_neg R.even ?_
    try refine wpAny_bind (wpAny_pure ?_)
    have dum : ∀ (n : Nat) (p : SetTable.Probe), p.dummy = none → (nth t.mask p n).dummy = none := by
      intro n
      induction n with
      | zero => exact fun p h => h
      | succ n ih =>
        intro p h
        refine ih (adv t.mask p) ?_
        unfold adv
        split <;> exact h
    have sh : ∀ q, nth t.mask (nth t.mask B c) q = nth t.mask B (c + q) := fun q => (nth_add t.mask c _ q).symm
    have hashAt : ∀ (i : Nat) p, L[i]? = some p → (fun i => (es[i]?.map (·.1)).getD 0) i = mH P w p.2 := fun i p hp => by
      show (es[i]?.map (·.1)).getD 0 = _
      rw [rows_get R.rows hp] <;> rfl
    have spec := go_spec t R.tab.ris R.tab.dm (fun i => (es[i]?.map (·.1)).getD 0) (mH P w k) (10 * SetTable.turns t.mask) (K - c) (nth t.mask B c) (dum c _ (by rw [← hB]; rfl)) (by omega)
      (fun q hq => by rw [sh, ← wB]; exact hKb (c + q) (by omega)) (by rw [sh, ← wB, show c + (K - c) = K by omega]; exact hK)
    rcases spec with ⟨q, i, hq, hi, hh, hno, hpr⟩ | ⟨hno, hpr⟩
    · have hpr' : t.probe (fun i => (es[i]?.map (·.1)).getD 0) (mH P w k) (stand.getD (t.probeStart (mH P w k))) = some (.candidate (way t.mask (mH P w k) (c + q)) i (nth t.mask B (c + (q + 1)))) := by
        rw [hst, wB, ← sh, ← sh]
        exact hpr
      rw [hpr']
      dsimp only
      rw [sh, ← wB] at hi
      have hil : i < L.length := by
        have h1 : i < t.place.toList.length := (List.getElem?_eq_some_iff.mp hi).1
        have h2 := R.tab.sz
        rw [List.length_map] at h2
        rw [Array.length_toList] at h1
        omega
      obtain ⟨p, hp⟩ : ∃ p, L[i]? = some p := ⟨_, List.getElem?_eq_getElem hil⟩
      have hmem : p ∈ L := List.mem_of_getElem? hp
      have rest : wpAny (model P w) A (searchRest a (.ref x) (mH P w k) true f es t (way t.mask (mH P w k) (c + q)) i (nth t.mask B (c + (q + 1)))) Q E s := by
        unfold searchRest
        rw [rows_get R.rows hp]
        dsimp only
        refine wpAny_bind (wpAny_holding (wpAny_eqBool_tuple hu (R.tup p hmem) hx ?_))
        refine wpAny_bind (wpAny_setState_of ho hd R.fits ?_)
        dsimp only
        by_cases hkk : p.2 = k
        · exact wp_if_pos (by simp [hkk]) (wpAny_pure (hin (List.mem_map.mpr ⟨p, hmem, hkk⟩)))
        · refine wp_if_neg (by simp [hkk]) ?_
          try refine wpAny_bind (wpAny_pure ?_)
          rw [sameMem]
          dsimp only
          have hsl : t.slot (way t.mask (mH P w k) (c + q)) = .live i := slot_live R.tab.ris hi
          simp only [if_true, hsl, rows_get R.rows hp]
          refine wpAny_bind (wpAny_isSame_ref_self (wpAny_bind (wpAny_pure ?_)))
          simp only [if_true]
          refine wp_if_neg (by simp [hkk]) ?_
          refine seek R hx hu hKf hK hKb hin hout f (c + (q + 1)) _ (by rw [hB]; rfl) (by omega) (by omega) fun i0 p0 h0 hk0 => ?_
          obtain ⟨c', a1, a2, a3⟩ := hre i0 p0 h0 hk0
          refine ⟨c', ?_, a2, a3⟩
          rcases Nat.lt_trichotomy c' (c + q) with z | z | z
          · exact absurd ((hashAt i0 p0 h0).trans (congrArg (mH P w) hk0)) (hno (c' - c) i0 (by omega) (by rw [sh, ← wB, show c + (c' - c) = c' by omega]; exact a3))
          · exfalso
            rw [z] at a3
            have s0 := slot_live R.tab.ris a3
            rw [hsl] at s0
            injection s0 with s0
            rw [← s0, hp] at h0
            exact hkk ((congrArg Prod.snd (Option.some.inj h0)).trans hk0)
          · omega
      by_cases hl : t.led = true
      · refine wp_if_neg (by simp [hl]) ?_
        try refine wpAny_bind (wpAny_pure ?_)
        exact rest
      · refine wp_if_pos (by simp [hl]) ?_
        refine wpAny_bind (unseen hx (fun y hy => ?_) ?_)
        · obtain ⟨e, he, ee⟩ := List.mem_map.mp hy
          have he1 : e ∈ es ∧ e.1 = mH P w k := by simpa using he
          have he2 : e ∈ es.toList := by simpa using he1.1
          rw [R.rows] at he2
          obtain ⟨p2, hp2, e2⟩ := List.mem_map.mp he2
          refine ⟨p2.2, p2.1, ?_, R.tup p2 hp2⟩
          rw [← ee, ← e2]
        · refine wp_if_neg (by decide) ?_
          try refine wpAny_bind (wpAny_pure ?_)
          exact rest
    · have hpr' : t.probe (fun i => (es[i]?.map (·.1)).getD 0) (mH P w k) (stand.getD (t.probeStart (mH P w k))) = some (.empty (way t.mask (mH P w k) K) none) := by
        have e2 : way t.mask (mH P w k) K = (nth t.mask (nth t.mask B c) (K - c)).j := by
          rw [sh, ← wB, show c + (K - c) = K by omega]
        rw [hst, e2]
        exact hpr
      rw [hpr']
      dsimp only
      refine wpAny_pure (hout fun hm => ?_)
      obtain ⟨p0, h0, hk0⟩ := List.mem_map.mp hm
      obtain ⟨i0, hi0, e0⟩ := List.getElem_of_mem h0
      have h00 : L[i0]? = some p0 := by rw [List.getElem?_eq_getElem hi0, e0]
      obtain ⟨c', a1, a2, a3⟩ := hre i0 p0 h00 hk0
      exact hno (c' - c) i0 (by omega) (by rw [sh, ← wB, show c + (c' - c) = c' by omega]; exact a3) ((hashAt i0 p0 h00).trans (congrArg (mH P w) hk0))
theorem seek_all (R : MSet P w s.heap a L es ep t) {x : Addr} {k : List Key} (hx : IsM P w s.heap k x) (hu : A.units < cLine) {Q : SetFound → Shared → Prop}
    (hin : k ∈ L.map (·.2) → Q (.there none) s)
    (hout : ∀ K, k ∉ L.map (·.2) → way t.mask (mH P w k) K ∉ t.place.toList → (∀ c, c < K → way t.mask (mH P w k) c ∈ t.place.toList) → Q (.free (way t.mask (mH P w k) K) false) s) :
    wpAny (model P w) A (setSearch a (.ref x) (mH P w k) true) Q E s := by
  have hroom := R.room
  obtain ⟨K, hKf, hK, hKb⟩ := R.tab.first (by rw [List.length_map]; omega) (mH P w k)
  have hbig : K < 100000 := by
    have : 10 * SetTable.turns t.mask ≤ 1420 := by
      unfold SetTable.turns
      rcases R.tab.mok with e | e | e <;> omega
    omega
  unfold setSearch
  refine seek R hx hu hKf hK hKb hin (fun hn => hout K hn hK hKb) 100000 0 none rfl (Nat.zero_le _) (by omega) fun i p hp hk => ?_
  have hi : (L.map fun p => mH P w p.2)[i]? = some (mH P w k) := by rw [List.getElem?_map, hp, ← hk] <;> rfl
  have hil : i < t.place.toList.length := by
    have h1 : i < L.length := (List.getElem?_eq_some_iff.mp hp).1
    have h2 := R.tab.sz
    rw [List.length_map] at h2
    rw [Array.length_toList]
    omega
  have hj := List.getElem?_eq_getElem hil
  obtain ⟨c, hc, e⟩ := R.tab.before hK hi hj
  exact ⟨c, Nat.zero_le _, hc, by rw [hj, e]⟩
theorem isM_but {h h' : Heap} {k : List Key} {a b : Addr} {o : Obj} {es : Array (Int × Value)} {ep : Nat} {t : SetTable} (hb : IsM P w h k b) (ho : h.get? a = some o) (hd : o.data = .set es ep t) (hs : Heap.SameBut a h h') : IsM P w h' k b := by
  obtain ⟨o', items, n, ho', hc, hd', hi⟩ := hb
  have hne : b ≠ a := by
    rintro rfl
    obtain rfl : o' = o := Option.some.inj (ho'.symm.trans ho)
    rw [hd] at hd'
    exact nomatch hd'
  exact ⟨o', items, n, (hs.2 b hne).trans ho', hc, hd', hi⟩
theorem isM_keep {h h' : Heap} {k : List Key} {b : Addr} (x : IsM P w h k b) (hk : ∀ c o, h.get? c = some o → h'.get? c = some o) : IsM P w h' k b := by
  obtain ⟨o, items, n, ho, r⟩ := x
  exact ⟨o, items, n, hk b o ho, r⟩
/-- rows in the sequence of a new table -/
theorem rows_order (L : List MRow) (es : Array (Int × Value)) (order : Array Nat) (hr : es.toList = rowsM P w L) (hp : order.toList.Perm (List.range L.length)) :
    ∃ L2 : List MRow, (order.filterMap (es[·]?)).toList = rowsM P w L2 ∧ L2.Perm L ∧ (L2.map fun p => mH P w p.2) = order.toList.map fun i => (es.map (·.1)).getD i 0 := by
  have hsz := rows_len hr
  refine ⟨order.toList.filterMap fun i => L[i]?, ?_, ?_, ?_⟩
  · rw [show (order.filterMap (es[·]?)).toList = order.toList.filterMap (fun i => es[i]?) from by first | exact Array.toList_filterMap | simp]
    unfold rowsM
    rw [List.map_filterMap]
    refine congrArg (fun f => List.filterMap f order.toList) (funext fun i => ?_)
    rw [← Array.getElem?_toList, hr]
    unfold rowsM
    rw [List.getElem?_map]
  · have h1 : (order.toList.filterMap fun i => L[i]?).Perm ((List.range L.length).filterMap fun i => L[i]?) := hp.filterMap _
    have h2 : ∀ n, n ≤ L.length → (List.range n).filterMap (fun i => L[i]?) = L.take n := by
      intro n
      induction n with
      | zero => intro _; rfl
      | succ n ih =>
        intro hn
        have hlt : n < L.length := hn
        rw [List.range_succ, List.filterMap_append, ih (Nat.le_of_lt hlt), List.take_succ, List.getElem?_eq_getElem hlt]
        rw [List.filterMap_cons_some (List.getElem?_eq_getElem hlt)] <;> rfl
    rw [h2 L.length (Nat.le_refl _), List.take_length] at h1
    exact h1
  · have key : ∀ l : List Nat, (∀ i ∈ l, i < L.length) → ((l.filterMap fun i => L[i]?).map fun p => mH P w p.2) = l.map fun i => (es.map (·.1)).getD i 0 := by
      intro l
      induction l with
      | nil => intro _; rfl
      | cons i l ih =>
        intro hl
        have hi := hl i List.mem_cons_self
        have e4 : (es.map (·.1)).getD i 0 = mH P w (L[i]).2 := by
          have e5 : (es.map (·.1))[i]? = some (mH P w (L[i]).2) := by rw [Array.getElem?_map, rows_get hr (List.getElem?_eq_getElem hi)] <;> rfl
          simp [Array.getD_eq_getD_getElem?, e5]
        rw [List.filterMap_cons_some (List.getElem?_eq_getElem hi), List.map_cons, List.map_cons, ih fun j hj => hl j (List.mem_cons_of_mem _ hj), e4]
    exact key order.toList fun i hi => List.mem_range.mp (hp.mem_iff.mp hi)
end
end SWL
set_option Elab.async false
set_option linter.all false
set_option maxRecDepth 100000
set_option maxHeartbeats 4000000
namespace SWL
open PySem PySem.Spec PyProof.Rows L2 LamX
section
variable {P : Program} {w : World} {A : Around} {E : Value → Shared → Prop} {s : Shared} {a : Addr} {L : List MRow} {es : Array (Int × Value)} {ep : Nat} {t : SetTable}
/-- the table laid anew, larger -/
theorem m_relay {o : Obj} (ho : s.heap.get? a = some o) (hex : o.ExactSet) (hd : o.data = .set es ep t) (hrows : es.toList = rowsM P w L) (T0 : TabOk t (L.map fun p => mH P w p.2)) (hfl : es.size ≤ t.mask)
    (nd : (L.map (·.2)).Nodup) (tup : ∀ p ∈ L, IsM P w s.heap p.2 p.1) (ld : w.params.followText "set-order" = true ∨ t.led = true) (few : L.length < 64) {wanted M : Nat}
    (hw : SetTable.sizeAbove wanted - 1 = M) (hM : MaskOk M) (hw2 : SetTable.sizeAbove wanted ≤ 128) (hn : L.length * 5 < M * 3) {Q : Unit → Shared → Prop}
    (hQ : ∀ h' L' es' ep' t', Heap.SameBut a s.heap h' → MSet P w h' a L' es' ep' t' → L'.Perm L → Q () { s with heap := h' }) : wpAny (model P w) A (setRelay a wanted) Q E s := by
  have hsl := rows_len hrows
  have hfits : t.fits es.size = true := tab_fits T0 (by rw [List.length_map, hsl]) hfl
  obtain ⟨t', order, e, hp, T, em, el, ep', ed⟩ := relaid_ok t (hs := es.map (·.1)) (wanted := wanted) hw hM (by rw [Array.size_map, hsl]; omega)
  rw [Array.size_map, hsl] at hp
  obtain ⟨L2, r1, r2, r3⟩ := rows_order L es order hrows hp
  rw [← r3] at T
  have hs2 : (order.filterMap (es[·]?)).size = es.size := by rw [rows_len r1, r2.length_eq, hsl]
  rw [setRelay_eq]
  refine wpAny_bind (wpAny_setState_of ho hd hfits ?_)
  dsimp only
  refine wp_if_neg (by rw [sizeLine_eq]; omega) ?_
  try refine wpAny_bind (wpAny_pure ?_)
  rw [e]
  dsimp only
  refine wpAny_bind ?_
  refine wp_if_neg (by rw [hs2]; simp) ?_
  try refine wpAny_bind (wpAny_pure ?_)
  refine wpAny_pure ?_
  dsimp only
  refine wpAny_storeSet_of ho hd ?_ (by rw [hs2, hsl, sizeLine_eq]; omega)
  have sb : Heap.SameBut a s.heap (s.heap.update a (Obj.putSet (order.filterMap (es[·]?)) t')) := Heap.SameBut.update ..
  refine hQ _ L2 (order.filterMap (es[·]?)) (ep + 1) t' sb ?_ r2
  refine ⟨⟨_, store_at ho hd, ⟨hex.1, hex.2.1, hex.2.2⟩, rfl⟩, r1, T, (r2.map (·.2)).nodup_iff.mpr nd, fun p hpm => isM_but (tup p (r2.mem_iff.mp hpm)) ho hd sb, by rw [el]; exact ld, ?_, by rw [r2.length_eq]; exact few⟩
  rw [r2.length_eq, em]
  exact hn
/-- one tuple is added -/
theorem m_add (R : MSet P w s.heap a L es ep t) {x : Addr} {k : List Key} (hx : IsM P w s.heap k x) (hu : A.units < cLine) (hfew : L.length + 1 < 64) {Q : Bool → Shared → Prop}
    (hQ : ∀ b h' L' es' ep' t', Heap.SameBut a s.heap h' → MSet P w h' a L' es' ep' t' → (k ∈ L.map (·.2) → L' = L) → (k ∉ L.map (·.2) → L'.Perm ((x, k) :: L)) → Q b { s with heap := h' }) :
    wpAny (model P w) A (setAddHashed a (.ref x) (mH P w k)) Q E s := by
  obtain ⟨o, ho, hex, hd⟩ := R.ob
  have hsl := rows_len R.rows
  have hroom := R.room
  unfold setAddHashed
  refine wpAny_holding ?_
  rw [show (100000 : Nat) = 99999 + 1 from rfl, setAddHashedIn_succ]
  refine wpAny_bind (wpAny_setState_of ho hd R.fits ?_)
  dsimp only
  refine wp_if_neg (by simp [byScan, Value.scannable]) ?_
  try refine wpAny_bind (wpAny_pure ?_)
  refine wpAny_bind (seek_all R hx hu (fun hm => ?_) fun K hm hK hb => ?_)
  · dsimp only
    exact wpAny_pure (hQ false s.heap L es ep t (Heap.SameBut.refl a s.heap) R (fun _ => rfl) fun z => absurd hm z)
  · dsimp only
    refine wpAny_bind (wpAny_setState_of ho hd R.fits ?_)
    dsimp only
    obtain ⟨q1, q2, q3, q4, q5, q6, q7, q8, q9⟩ := R.tab.put hK hb
    generalize hpt : t.put (way t.mask (mH P w k) K) = pt at q1 q3 q4 q5 q6 q7 q8 q9 ⊢
    obtain ⟨t1, p⟩ := pt
    dsimp only at q1 q3 q4 q5 q6 q7 q8 q9 ⊢
    subst q1
    have hin : (SetTable.insertAt es (SetTable.below t.place (way t.mask (mH P w k) K)) (mH P w k, Value.ref x)).toList = rowsM P w (L.take (SetTable.below t.place (way t.mask (mH P w k) K)) ++ (x, k) :: L.drop (SetTable.below t.place (way t.mask (mH P w k) K))) := by
      rw [SetTable.toList_insertAt, R.rows]
      unfold rowsM
      rw [List.map_append, List.map_cons, List.map_take, List.map_drop]
    generalize hpp : SetTable.below t.place (way t.mask (mH P w k) K) = p at q2 q3 hin ⊢
    have pm := put_perm L p (x, k)
    have hlen : (L.take p ++ (x, k) :: L.drop p).length = L.length + 1 := pm.length_eq
    have hhs : (L.take p ++ (x, k) :: L.drop p).map (fun p => mH P w p.2) = (L.map fun p => mH P w p.2).take p ++ mH P w k :: (L.map fun p => mH P w p.2).drop p := by
      rw [List.map_append, List.map_cons, List.map_take, List.map_drop]
    rw [← hhs] at q3
    have nd1 : ((L.take p ++ (x, k) :: L.drop p).map (·.2)).Nodup := by
      refine (pm.map (·.2)).nodup_iff.mpr ?_
      rw [List.map_cons]
      exact List.nodup_cons.mpr ⟨hm, R.nd⟩
    have hes := rows_len hin
    rw [hlen] at hes
    generalize SetTable.insertAt es p (mH P w k, Value.ref x) = es1 at hin hes ⊢
    generalize L.take p ++ (x, k) :: L.drop p = L1 at pm hlen q3 nd1 hin
    -- whatever the table says of what is carried by value
    have main : ∀ t1' : SetTable, TabOk t1' (L1.map fun p => mH P w p.2) → t1'.mask = t.mask → t1'.led = t.led → t1'.fill = L.length + 1 → wpAny (model P w) A (do
        storeSet a es1 t1'
        if !false && t1'.tooFull then setRelay a (SetTable.grown (es.size + 1))
        return true) Q E s := fun t1 q3 q4 q5 q9 => by
      refine wpAny_bind (wpAny_storeSet_of ho hd ?_ (by rw [hes, sizeLine_eq]; omega))
      have sb : Heap.SameBut a s.heap (s.heap.update a (Obj.putSet es1 t1)) := Heap.SameBut.update ..
      have ho1 := store_at (es' := es1) (t' := t1) ho hd
      generalize s.heap.update a (Obj.putSet es1 t1) = h1 at sb ho1 ⊢
      have tup1 : ∀ p ∈ L1, IsM P w h1 p.2 p.1 := fun p hp => by
        rcases List.mem_cons.mp (pm.mem_iff.mp hp) with e | hp
        · rw [e]; exact isM_but hx ho hd sb
        · exact isM_but (R.tup p hp) ho hd sb
      have ld1 : w.params.followText "set-order" = true ∨ t1.led = true := by rw [q5]; exact R.led
      by_cases hf : t1.tooFull = true
      · first
          | (refine wpAny_bind ?_; refine wp_if_pos (by simp [hf]) ?_)
          | (refine wp_if_pos (by simp [hf]) ?_; refine wpAny_bind ?_)
        have hfull : (L.length + 1) * 5 ≥ t1.mask * 3 := by
          have h := hf
          unfold SetTable.tooFull at h
          rw [decide_eq_true_eq, q9] at h
          exact h
        rw [hsl]
        have cases2 : (t.mask = 7 ∧ L.length = 4) ∨ (t.mask = 31 ∧ L.length = 18) := by
          rcases R.tab.mok with e | e | e
          · left; rw [q4, e] at hfull; rw [e] at hroom; exact ⟨e, by omega⟩
          · right; rw [q4, e] at hfull; rw [e] at hroom; exact ⟨e, by omega⟩
          · exfalso; rw [q4, e] at hfull; omega
        have go : ∀ M, SetTable.sizeAbove (SetTable.grown (L.length + 1)) - 1 = M → MaskOk M → SetTable.sizeAbove (SetTable.grown (L.length + 1)) ≤ 128 → (L.length + 1) * 5 < M * 3 →
            wpAny (model P w) A (setRelay a (SetTable.grown (L.length + 1))) (fun _ s' => wpAny (model P w) A (pure true) Q E s') E { s with heap := h1 } := fun M h1' h2' h3' h4' => by
          refine m_relay (s := { s with heap := h1 }) ho1 ⟨hex.1, hex.2.1, hex.2.2⟩ rfl hin q3 (by rw [hes, q4]; rcases cases2 with ⟨e, e2⟩ | ⟨e, e2⟩ <;> omega) nd1 tup1 ld1 (by rw [hlen]; exact hfew) h1' h2' h3' (by rw [hlen]; exact h4') ?_
          intro h2 L2 es2 ep2 t2 sb2 R2 pm2
          refine wpAny_pure (hQ true h2 L2 es2 ep2 t2 (sb.trans sb2) R2 (fun z => absurd z hm) fun _ => pm2.trans pm)
        rcases cases2 with ⟨_, e2⟩ | ⟨_, e2⟩
        · refine go 31 (by rw [e2, size_20]) (.inr (.inl rfl)) (by rw [e2, size_20]; decide) (by omega)
        · refine go 127 (by rw [e2, size_76]) (.inr (.inr rfl)) (by rw [e2, size_76]; decide) (by omega)
      · first
          | refine wp_if_neg (by simp [hf]) ?_
          | (refine wpAny_bind ?_; refine wp_if_neg (by simp [hf]) ?_; refine wpAny_pure ?_)
        refine wpAny_pure (hQ true h1 L1 es1 (ep + 1) t1 sb ⟨⟨_, ho1, ⟨hex.1, hex.2.1, hex.2.2⟩, rfl⟩, hin, q3, nd1, tup1, ld1, ?_, by rw [hlen]; exact hfew⟩ (fun z => absurd z hm) fun _ => pm)
        have h := hf
        unfold SetTable.tooFull at h
        rw [decide_eq_true_eq, q9] at h
        rw [hlen]
        omega
    have q9' : t1.fill = L.length + 1 := by rw [q9, List.length_map]
    have off : ∀ T : TabOk t1 (L1.map fun p => mH P w p.2), TabOk { t1 with plain := false } (L1.map fun p => mH P w p.2) := fun T => ⟨T.ris, T.dm, T.sz, T.mok, T.bd, T.reach⟩
    by_cases pl : t1.plain = true
    · first
        | (refine wpAny_bind ?_; refine wp_if_pos pl ?_; refine val_tup hx fun b => ?_)
        | refine wp_if_pos pl (wpAny_bind (val_tup hx fun b => ?_))
      cases b with
      | true => exact main t1 q3 q4 q5 q9'
      | false => exact main { t1 with plain := false } (off q3) q4 q5 q9'
    · first
        | (refine wpAny_bind ?_; refine wp_if_neg pl ?_; refine wpAny_pure ?_)
        | refine wp_if_neg pl (wpAny_bind (wpAny_pure ?_))
      exact main t1 q3 q4 q5 q9'
theorem m_fresh {h : Heap} {a : Addr} (ho : h.get? a = some (set0 w)) : MSet P w h a [] #[] 0 (.fresh 0 0 (!w.params.followText "set-order")) where
  ob := ⟨_, ho, ⟨rfl, rfl, rfl⟩, rfl⟩
  rows := rfl
  tab := ⟨List.Pairwise.nil, rfl, rfl, .inl rfl, fun x hx => (by cases hx), fun i h j hi => (by simp at hi)⟩
  nd := List.nodup_nil
  tup := fun p hp => (by cases hp)
  led := by
    show _ ∨ (!w.params.followText "set-order") = true
    cases w.params.followText "set-order"
    · exact .inr rfl
    · exact .inl rfl
  room := by
    show 0 * 5 < 7 * 3
    decide
  few := by
    show 0 < 64
    decide
end
end SWL
set_option Elab.async false
set_option linter.all false
set_option maxRecDepth 100000
set_option maxHeartbeats 4000000
namespace SWL
open PySem PySem.Spec PyProof.Rows L2 LamX
/-! set(a list of tuples), sorted(the set) -/
/-- the set holds each key of these rows once -/
structure Each1 (ks L : List MRow) : Prop where
  sub : ∀ p ∈ L, p ∈ ks
  all : ∀ p ∈ ks, p.2 ∈ L.map (·.2)
  nd : (L.map (·.2)).Nodup
structure MRaw (P : Program) (w : World) (h : Heap) (a : Addr) (L : List MRow) : Prop where
  ex : ∃ o es ep t, h.get? a = some o ∧ o.ExactSet ∧ o.data = .set es ep t ∧ es.toList = rowsM P w L ∧ t.fits es.size = true ∧ Ris t.place.toList ∧ (w.params.followText "set-order" = true ∨ t.led = true)
  few : L.length < 64
  nd : (L.map (·.2)).Nodup
def MsO (P : Program) (w : World) (a : Addr) (L : List MRow) : HO := .ext fun h => MRaw P w h a L
theorem msO_new {P : Program} {w : World} {H : Hp} {h : Heap} {a : Addr} {L : List MRow} (x : MRaw P w h a L) : ObjOk P w H h a (MsO P w a L) := by
  refine ⟨x, (by obtain ⟨o, _, _, _, ho, _⟩ := x.ex; exact ⟨o, ho⟩), fun h1 h2 y k => ?_⟩
  obtain ⟨⟨o, es, ep, t, ho, r⟩, y2, y3⟩ := (show MRaw P w h1 a L from y)
  exact ⟨⟨o, es, ep, t, k _ ho, r⟩, y2, y3⟩
section
variable {P : Program} {w : World} {A : Around} {E : Value → Shared → Prop} {s : Shared}
theorem MSet.raw {h : Heap} {a : Addr} {L : List MRow} {es : Array (Int × Value)} {ep : Nat} {t : SetTable} (R : MSet P w h a L es ep t) : MRaw P w h a L := by
  obtain ⟨o, ho, hex, hd⟩ := R.ob
  have := R.room
  exact ⟨⟨o, es, ep, t, ho, hex, hd, R.rows, tab_fits R.tab (by rw [List.length_map, rows_len R.rows]) (by rw [rows_len R.rows]; omega), R.tab.ris, R.led⟩, R.few, R.nd⟩
theorem MSet.stay {h h' : Heap} {a : Addr} {L : List MRow} {es : Array (Int × Value)} {ep : Nat} {t : SetTable} (R : MSet P w h a L es ep t) (ha : ∀ o, h.get? a = some o → h'.get? a = some o) (ht : ∀ p ∈ L, IsM P w h' p.2 p.1) : MSet P w h' a L es ep t := by
  obtain ⟨o, ho, r⟩ := R.ob
  exact ⟨⟨o, ha o ho, r⟩, R.rows, R.tab, R.nd, ht, R.led, R.room, R.few⟩
theorem m_fill {l : Addr} {items : Array Value} (ks : List MRow) {Q : Value → Shared → Prop} (hh : A.handled = none) (hl : s.heap.IsList l items) (hit : items.toList = ks.map fun p => Value.ref p.1)
    (hk : ∀ p ∈ ks, IsM P w s.heap p.2 p.1) (hfew : ks.length < 64) (hu : A.units + 16 < cLine)
    (q : ∀ (h' : Heap) (tk : Nat) (L : List MRow), MRaw P w h' s.heap.objs.size L → Each1 ks L → (∀ b o, s.heap.get? b = some o → h'.get? b = some o) → Q (.ref s.heap.objs.size) { s with heap := h', toks := tk }) :
    wpAny (model P w) A (call (.type "set") [.ref l]) Q E s := by
  have hisz : items.size = ks.length := by
    have q := congrArg List.length hit
    rw [Array.length_toList, List.length_map] at q
    exact q
  refine set_by fun A' E' hA hU => ?_
  have hh' : A'.handled = none := hA.trans hh
  have hS : (s.heap.push (set0 w)).get? s.heap.objs.size = some (set0 w) := Heap.get?_push_size _ rfl
  obtain ⟨ol, hol, hcl, nl, hdl⟩ := hl
  obtain ⟨ocls, odict, odata, oslots⟩ := ol
  simp only at hcl hdl
  subst hcl
  subst hdl
  have hlS : l < s.heap.objs.size := Heap.lt_size hol
  have hol' : (s.heap.push (set0 w)).get? l = some { cls := .type "list", dict := odict, data := .seq items nl, slots := oslots } := Heap.get?_push_of_some _ hol
  have hl1 : (s.heap.push (set0 w)).IsList l items := ⟨_, hol', rfl, nl, rfl⟩
  have hsls := F.sub_list_set
  have hslf := F.sub_list_frozenset
  have hne : (Value.type "list" == Value.type "dict") = false := by decide
  unfold Builtin.Frozenset.updateFrom
  generalize hPI : pyIter = PI
  wp_walk
  subst hPI
  refine wpAny_pyIter_list hl1 ?_
  refine wpAny_bind (wpAny_runValue ?_)
  have sz1 : (s.heap.push (set0 w)).objs.size = s.heap.objs.size + 1 := size_push' _ _
  have hneI : l ≠ (s.heap.push (set0 w)).objs.size := by
    rw [sz1]
    exact Nat.ne_of_lt (Nat.lt_succ_of_lt hlS)
  have away : s.heap.objs.size ∉ [(s.heap.push (set0 w)).objs.size, l] := by
    rw [sz1]
    simp only [List.mem_cons, List.not_mem_nil, or_false, not_or]
    exact ⟨Nat.ne_of_lt (Nat.lt_succ_self _), Nat.ne_of_gt hlS⟩
  have up : ∀ o b u, s.heap.get? b = some u → ((s.heap.push (set0 w)).push o).get? b = some u := fun o b u e => Heap.get?_push_of_some _ (Heap.get?_push_of_some _ e)
  have lt : ∀ b u, s.heap.get? b = some u → b ≠ s.heap.objs.size ∧ b ≠ (s.heap.push (set0 w)).objs.size := fun b u e => by
    have h := Heap.lt_size e
    exact ⟨Nat.ne_of_lt h, Nat.ne_of_lt (by rw [sz1]; exact Nat.lt_succ_of_lt h)⟩
  have at_ : ∀ p ∈ ks, ∃ u, s.heap.get? p.1 = some u := fun p hp => by
    obtain ⟨o, _, _, ho, _⟩ := hk p hp
    exact ⟨o, ho⟩
  have kept : ∀ p ∈ ks, ∀ h : Heap, (∀ b u, s.heap.get? b = some u → h.get? b = some u) → IsM P w h p.2 p.1 := fun p hp h k => isM_keep (hk p hp) k
  refine fill_loop (P := P) (w := w) (A := A') (n := items.size) (wr := [(s.heap.push (set0 w)).objs.size]) ((Walks.list (by simp [hh']) _ l hneI items).toS) away
    (fun i h => (∀ b u, s.heap.get? b = some u → h.get? b = some u) ∧ ∃ L es ep t, MSet P w h s.heap.objs.size L es ep t ∧ (∀ p ∈ L, p ∈ ks.take i) ∧ (∀ p ∈ ks.take i, p.2 ∈ L.map (·.2)) ∧ L.length ≤ i)
    (fun i h h' ⟨g, L, es, ep, t, x, g1, g2, g3⟩ k => ?_) ?_ items.size 0 _ (by omega) ⟨⟨_, Heap.get?_push_size _ rfl, rfl, rfl⟩, hl1.push _⟩ ⟨up _, [], #[], 0, _, m_fresh (Heap.get?_push_of_some _ hS), (fun p hp => by cases hp), (fun p hp => by simp at hp), Nat.le_refl _⟩ ?_
  · have g' : ∀ b u, s.heap.get? b = some u → h'.get? b = some u := fun b u e => k b u (by simpa using (lt b u e).2) (g b u e)
    exact ⟨g', L, es, ep, t, x.stay (fun o e => k _ o (by rw [sz1]; simp) e) (fun p hp => kept p (List.mem_of_mem_take (g1 p hp)) h' g'), g1, g2, g3⟩
  · rintro i v s0 Q' E2 hi hv ⟨g, L, es, ep, t, x, g1, g2, g3⟩ q'
    obtain ⟨p, hp, rfl⟩ : ∃ p, ks[i]? = some p ∧ v = .ref p.1 := by
      have q : items.toList[i]? = some v := by rw [Array.getElem?_toList]; exact hv
      rw [hit, List.getElem?_map] at q
      cases hq : ks[i]? with
      | none => rw [hq] at q; cases q
      | some p =>
        rw [hq] at q
        exact ⟨p, rfl, (Option.some.inj q).symm⟩
    have hpm : p ∈ ks := List.mem_of_getElem? hp
    have ht : ks.take (i + 1) = ks.take i ++ [p] := take_snoc hp
    have hx : IsM P w s0.heap p.2 p.1 := kept p hpm _ g
    have hu' : A'.in1.units < cLine := by
      show A'.units + 1 < cLine
      omega
    unfold setAdd
    refine wpAny_holding (wpAny_bind (wpAny_pyHash_tuple hu' hx ?_))
    refine m_add (s := { s0 with toks := s0.toks + (p.2.length + 1) }) x hx hu' (by omega) fun b h' L' es' ep' t' sb R c1 c2 => ?_
    have g' : ∀ b u, s.heap.get? b = some u → h'.get? b = some u := fun b u e => (sb.2 b (lt b u e).1).trans (g b u e)
    refine q' b h' _ (Nat.le_add_right _ _) sb ⟨g', L', es', ep', t', R, ?_⟩
    rw [ht]
    by_cases c : p.2 ∈ L.map (·.2)
    · rw [c1 c]
      refine ⟨fun y hy => List.mem_append_left _ (g1 y hy), fun y hy => ?_, by omega⟩
      rcases List.mem_append.mp hy with h | h
      · exact g2 y h
      · rw [List.mem_singleton.mp h]
        exact c
    · have pm := c2 c
      refine ⟨fun y hy => ?_, fun y hy => ?_, by rw [pm.length_eq, List.length_cons]; omega⟩
      · rcases List.mem_cons.mp (pm.mem_iff.mp hy) with h | h
        · rw [h]
          exact List.mem_append_right _ List.mem_cons_self
        · exact List.mem_append_left _ (g1 y h)
      · rw [(pm.map (·.2)).mem_iff, List.map_cons]
        rcases List.mem_append.mp hy with h | h
        · exact List.mem_cons_of_mem _ (g2 y h)
        · rw [List.mem_singleton.mp h]
          exact List.mem_cons_self
  · rintro s' mv ⟨g, L, es, ep, t, x, g1, g2, g3⟩
    obtain ⟨h', g', d', tk', os'⟩ := s'
    obtain rfl : g' = s.gens := mv.gens
    obtain rfl : d' = s.drawn := mv.drawn
    obtain rfl : os' = s.os := mv.os
    have et : ks.take items.size = ks := List.take_of_length_le (by omega)
    rw [et] at g1 g2
    refine wpAny_pure ?_
    exact q h' tk' L x.raw ⟨g1, g2, x.nd⟩ g
end
section
variable {X : Cx}
def keysIn (H : Hp) (ks : List MRow) : Prop := ∀ p ∈ ks, H p.1 = some (.tup (p.2.map kV))
theorem isM_of {pins : List (Addr × Obj)} {σ : L2.St} {H : Hp} {s : Shared} (I : Inv X pins σ H s) {p : MRow} (h : H p.1 = some (.tup (p.2.map kV))) : IsM X.prog X.w s.heap p.2 p.1 := by
  obtain ⟨_, its, rv, o, ho, hc, n, hd⟩ := (show ObjOk X.prog X.w H s.heap p.1 (.tup (p.2.map kV)) from I.hok _ _ h)
  exact ⟨o, its.toArray, n, ho, hc, hd, by rw [List.toList_toArray]; exact items_of p.2 its rv⟩
/-- set(xs) -/
def rSetM (K : PySem.W.Frag) (P : Program) (w : World) : List V → Hp → VK → Prop := fun xs H Q => ∃ l ks, xs = [.ref l] ∧ SqL K H l (ks.map fun p => V.ref p.1) ∧ keysIn H ks ∧ ks.length < 64 ∧ ∀ p L, H p = none → Each1 ks L → L.length < 64 → Q (.ref p) (upd H p (MsO P w p L))
theorem refs_of : ∀ {ks : List MRow} {us : List Value}, Vals (ks.map fun p => V.ref p.1) us → us = ks.map fun p => Value.ref p.1
  | [], _, .nil => rfl
  | p :: ks, _, .cons r t => by
    cases r
    rw [refs_of t]
    rfl
theorem cr_setM (hc : X.calm = true) (hu : X.A.units + 16 < cLine) : CallR X (.type "set") (rSetM X.K X.prog X.w) := by
  intro pins s σ H xs us Q I r h
  obtain ⟨l, ks, rfl, hs, hk, few, q⟩ := h
  rw [Vals.ref1 r]
  obtain ⟨its, rv, pl, hz⟩ := I.list hs
  refine m_fill ks (I.ok.hd hc) pl.isList (by simpa using refs_of rv) (fun p hp => isM_of I (hk p hp)) few hu fun h' tk L x e k => ?_
  exact ⟨.ref s.heap.objs.size, _, I.laid (t' := tk) k (Nat.le_refl _) (msO_new x), rfl, q _ L (I.hok.fresh (Nat.le_refl _)) e x.few⟩
/-- sorted(the set) -/
def rSortM (P : Program) (w : World) : List V → Hp → VK → Prop := fun xs H Q => ∃ a L, xs = [.ref a] ∧ H a = some (MsO P w a L) ∧ keysIn H L ∧ PySem.W.AllAlike (L.map fun p => encT p.2) ∧ (∀ p ∈ L, p.2 ≠ []) ∧
  ∀ (ys : List MRow) p, ys.Perm L → ys.Pairwise (fun x y => PySem.W.dataLt (encT y.2) (encT x.2) = false) → H p = none → Q (.ref p) (upd H p (.lst (ys.map fun y => V.ref y.1)))
theorem each_rows : ∀ {L : List MRow}, PySem.W.EachIs (fun v (y : MRow) => v = Value.ref y.1) (L.map fun y => Value.ref y.1) L
  | [] => .nil
  | y :: L => .cons rfl each_rows
theorem rows_each : ∀ {us : List Value} {ys : List MRow}, PySem.W.EachIs (fun v (y : MRow) => v = Value.ref y.1) us ys → Vals (ys.map fun y => V.ref y.1) us
  | _, _, .nil => .nil
  | _, _, .cons h t => by
    subst h
    exact .cons rfl (rows_each t)
theorem cr_sortedM (hc : X.calm = true) (hu : X.A.units + 64 < cLine) : CallR X (.builtin "sorted") (rSortM X.prog X.w) := by
  intro pins s σ H xs us Q I r h
  obtain ⟨a, L, rfl, ha, hk, hal, hne, q⟩ := h
  rw [Vals.ref1 r]
  obtain ⟨⟨o, es, ep, t, ho, hx, hd, hrows, hfit, hris, hled⟩, few, nd⟩ := (show ObjOk X.prog X.w H s.heap a (MsO X.prog X.w a L) from I.hok _ _ ha).1
  have n1 := rows_len hrows
  have hm : ∀ p ∈ L, IsM X.prog X.w s.heap p.2 p.1 := fun p hp => isM_of I (hk p hp)
  refine Calls.call_function_entry kind_sorted plain_sorted entry_sorted (args_sorted1 _) ?_
  unfold Builtin.«sorted»
  refine wpAny_bind (m := checkCount "sorted" 1 1 _) (wpAny_pure ?_)
  refine wpAny_bind (collect_set (A := X.A.in1) (I.ok.hd hc) ⟨o, ho, hx.1, hd⟩ hfit (by rw [n1]; unfold scanBound; omega) hris hled fun s1 vs up sz g1 o1 pm => ?_)
  have hes : es.toList.map (·.2) = L.map fun y => Value.ref y.1 := by
    rw [hrows]
    unfold rowsM
    rw [List.map_map]
    rfl
  rw [hes] at pm
  -- the rows in the sequence in which they come
  let back : Value → MRow := fun v => (L.find? fun y => Value.ref y.1 == v).getD (0, [])
  have hb : ∀ y ∈ L, back (Value.ref y.1) = y := fun y hy => by
    show (L.find? fun z => Value.ref z.1 == Value.ref y.1).getD (0, []) = y
    cases e : L.find? fun z => Value.ref z.1 == Value.ref y.1 with
    | none =>
      have := List.find?_eq_none.mp e y hy
      simp at this
    | some z =>
      have h1 := List.mem_of_find?_eq_some e
      have h2 := List.find?_some e
      have h3 : z.1 = y.1 := by
        have h2' := beq_iff_eq.mp h2
        injection h2'
      have z1 := hm z h1
      have y1 := hm y hy
      rw [h3] at z1
      exact Prod.ext h3 (z1.inj y1)
  have hv : ∀ v ∈ vs, ∃ y ∈ L, v = Value.ref y.1 := fun v hv => by
    obtain ⟨y, hy, e⟩ := List.mem_map.mp (pm.mem_iff.mp hv)
    exact ⟨y, hy, e.symm⟩
  have e1 : vs = (vs.map back).map fun y => Value.ref y.1 := by
    rw [List.map_map]
    have : ∀ l : List Value, (∀ v ∈ l, ∃ y ∈ L, v = Value.ref y.1) → l = l.map ((fun y : MRow => Value.ref y.1) ∘ back) := by
      intro l
      induction l with
      | nil => intro _; rfl
      | cons v l ih =>
        intro h
        obtain ⟨y, hy, rfl⟩ := h v List.mem_cons_self
        rw [List.map_cons, ← ih fun u hu => h u (List.mem_cons_of_mem _ hu)]
        show _ = Value.ref (back (Value.ref y.1)).1 :: l
        rw [hb y hy]
    exact this vs hv
  have p1 : (vs.map back).Perm L := by
    have h := pm.map back
    rw [List.map_map] at h
    have e : L.map (back ∘ fun y : MRow => Value.ref y.1) = L := by
      have : ∀ l : List MRow, (∀ y ∈ l, y ∈ L) → l.map (back ∘ fun y : MRow => Value.ref y.1) = l := by
        intro l
        induction l with
        | nil => intro _; rfl
        | cons y l ih =>
          intro h
          rw [List.map_cons, ih fun u hu => h u (List.mem_cons_of_mem _ hu)]
          show back (Value.ref y.1) :: l = y :: l
          rw [hb y (h y List.mem_cons_self)]
      exact this L fun y hy => hy
    rw [e] at h
    exact h
  generalize vs.map back = L1 at e1 p1
  subst e1
  have nl : L1.length < 64 := by rw [p1.length_eq]; exact few
  have nv : (L1.map fun y => Value.ref y.1).length ≤ sizeLine := by rw [List.length_map, sizeLine_eq]; omega
  refine wpAny_bind (wpAny_newList ?_ nv)
  generalize hvs : L1.map (fun y => Value.ref y.1) = vs at pm hv nv ⊢
  have at1 : (s1.heap.push (seqObj "list" vs.toArray 0)).get? s1.heap.objs.size = some (seqObj "list" vs.toArray 0) := Heap.get?_push_size _ rfl
  have hE : PySem.W.EachIs (fun v (y : MRow) => v = Value.ref y.1) vs L1 := by rw [← hvs]; exact each_rows
  have kp : ∀ b u, s.heap.get? b = some u → (s1.heap.push (seqObj "list" vs.toArray 0)).get? b = some u := fun b u e => Heap.get?_push_of_some _ (up b u e)
  have hR : PySem.W.EachIs (fun v (y : MRow) => ∃ as, Reads (s1.heap.push (seqObj "list" vs.toArray 0)) v (encT y.2) as ∧ s1.heap.objs.size ∉ as) vs L1 := by
    refine (PySem.W.each_mem hE).mono fun v y ⟨e, hy⟩ => ⟨[], ?_, by simp⟩
    subst e
    exact PyProof.Rows.Reads.keeps kp (tup_reads (hm y (p1.mem_iff.mp hy)))
  refine wpAny_bind (wpAny_holding ?_)
  refine PySem.W.list_sort_data (s := { s1 with heap := s1.heap.push (seqObj "list" vs.toArray 0) }) (enc := fun y : MRow => encT y.2) (bs := L1) at1 hE hR (fun d hd d' hd' => ?_) (.inl fun dd hdd => ?_) (by rw [sizeLine_eq]; omega) (fun y _ => ?_) fun out hlen hout => ?_
  · exact hal d ((p1.map _).mem_iff.mp hd) d' ((p1.map _).mem_iff.mp hd')
  · obtain ⟨y, hy, rfl⟩ := List.mem_map.mp hdd
    cases e : y.2 with
    | nil => exact absurd e (hne y (p1.mem_iff.mp hy))
    | cons k r => exact ⟨encK k, r.map encK, rfl⟩
  · have hdep : (encT y.2).depth = 1 := by
      have z : ∀ l : List Key, PyData.depthAll (l.map encK) = 0 := by
        intro l
        induction l with
        | nil => rfl
        | cons k r ih =>
          show PyData.depthAll (encK k :: r.map encK) = 0
          rw [PyData.depthAll, ih]
          cases k <;> rfl
      show PyData.depth (.tuple (y.2.map encK)) = 1
      rw [PyData.depth, z]
    rw [hdep]
    show X.A.units + 1 + 1 + 1 < cLine
    omega
  · obtain ⟨c, at2⟩ := sortedHeap_at (vs := vs) (out := out.toArray) at1
    have hv2 := rows_each hout
    have pw := PySem.W.sort_pairwise (PySem.W.sortLe_total (listOrd itemOrd) false fun y : MRow => PySem.W.keyToks (encT y.2)) L1
    have p2 : (L1.mergeSort (PySem.W.dataLe false fun y : MRow => encT y.2)).Perm L := (List.mergeSort_perm L1 _).trans p1
    have pw2 : (L1.mergeSort (PySem.W.dataLe false fun y : MRow => encT y.2)).Pairwise (fun x y => PySem.W.dataLt (encT y.2) (encT x.2) = false) := by
      refine List.Pairwise.imp (fun {x y} hxy => ?_) pw
      have h2 : (!PySem.W.dataLt (encT y.2) (encT x.2)) = true := hxy
      simpa using h2
    generalize L1.mergeSort (PySem.W.dataLe false fun y : MRow => encT y.2) = ys at hv2 p2 pw2
    have ll : (ys.map fun y => V.ref y.1).length ≤ sizeLine := by
      rw [List.length_map, p2.length_eq, sizeLine_eq]
      omega
    have old : ∀ b u, s.heap.get? b = some u → (sortedHeap (s1.heap.push (seqObj "list" vs.toArray 0)) s1.heap.objs.size vs out.toArray).get? b = some u := fun b u e => by
      have h1 := up b u e
      have h2 := Heap.lt_size h1
      exact (sortedHeap_old (Nat.ne_of_lt h2) (by rw [size_push']; exact Nat.lt_succ_of_lt h2)).trans (Heap.get?_push_of_some _ h1)
    have fresh : H s1.heap.objs.size = none := I.hok.fresh sz
    have newO : ObjOk X.prog X.w (upd H s1.heap.objs.size (.lst (ys.map fun y => V.ref y.1))) (sortedHeap (s1.heap.push (seqObj "list" vs.toArray 0)) s1.heap.objs.size vs out.toArray) s1.heap.objs.size (.lst (ys.map fun y => V.ref y.1)) := ⟨ll, _, c, hv2, at2⟩
    refine wpAny_pure ⟨_, rfl, .ref s1.heap.objs.size, upd H s1.heap.objs.size (.lst (ys.map fun y => V.ref y.1)), ?_, rfl, q ys _ p2 pw2 fresh⟩
    refine I.call' (ch := []) o1 (Un.laid old sz fresh) (I.hok.laid old sz newO) ?_ (fun _ z => nomatch z)
    show AllBare s1.gens
    rw [g1]
    exact I.bare
end
end SWL
set_option Elab.async false
set_option linter.all false
set_option maxRecDepth 100000
set_option maxHeartbeats 4000000
namespace SWL
open PySem PySem.Spec PyProof.Rows L2 LamX
/-! enumerate(text); dicts of nested keys: in, [], []= -/
def IteS (z : Str) : It :=
  ⟨fun i H => ∃ c, z.cps.toList[i]? = some c, fun i H v H' => ∃ T c, v = .ref T ∧ H T = none ∧ H' = upd H T (.tup [.int (i : Nat), .str ⟨#[c]⟩]) ∧ z.cps.toList[i]? = some c, fun i H => z.cps.toList.length = i⟩
theorem turn_enumS {P : Program} {w : World} {K : PySem.W.Frag} {elts : List Expr} {kk : Nat} {tpos : Pos} (z : Str) (tk0 : Tok) (e it : Addr) :
    Turn P w K (.Tuple elts kk tpos) (IteS z) [e, it] e (fun i h => (∃ old, IsEnum h e it (0 + ((i : Nat) : Int)) old) ∧ h.IsStrIter it (strIterType z) z tk0 i ∧ e ≠ it) where
  mem := by simp
  obj := fun i h st b hb => by
    obtain ⟨⟨old, he⟩, ⟨o, ho, hc, hd⟩, _⟩ := st
    rcases (by simpa using hb : b = e ∨ b = it) with z | z
    · exact ⟨_, by rw [z]; exact he, fun v q => by cases q⟩
    · exact ⟨o, by rw [z]; exact ho, fun v q => by rw [hd] at q; cases q⟩
  keep := fun i h h' st k => let ⟨⟨old, he⟩, ⟨o, ho, r⟩, hne⟩ := st; ⟨⟨old, k e (by simp) _ he⟩, ⟨o, k it (by simp) o ho, r⟩, hne⟩
  item := by
    intro X hP hw hK hc i pins s σ H E I hf st hg
    subst hP hw hK
    have hh : X.A.handled = none := I.ok.hd hc
    obtain ⟨c, hx⟩ := hg
    obtain ⟨he, hit, hne⟩ := st
    have G := GoesN.enumFrom (elts := elts) (x1 := kk) (pos := tpos) 0 (Draws.text (prog := X.prog) (w := X.w) (A := X.A.in1) hh it z tk0) e hne (by simp [hne]) (by simp)
    have hlt : i < z.cps.size := by
      have := (List.getElem?_eq_some_iff.mp hx).1
      simpa using this
    refine G.goes i s _ E hlt ⟨he, hit⟩ fun v h' tk hY st' hk _ => ?_
    obtain ⟨T, t, u, rfl, hT, ⟨c', u', hc', rfl⟩, hTup⟩ := hY
    have hcc : c' = c := by
      rw [← Array.getElem?_toList, hx] at hc'
      exact (Option.some.inj hc').symm
    subst hcc
    have fr : H T = none := I.hok.fresh hT
    refine ⟨.ref T, upd H T (.tup [.int (i : Nat), .str ⟨#[c']⟩]), I.turnedNew (t' := tk) (ch := [e, it]) hk hf hT ?_, rfl, ⟨T, c', rfl, fr, rfl, hx⟩, ⟨st'.1, st'.2, hne⟩, fun b hb => ?_⟩
    · refine ⟨by show 2 ≤ sizeLine; decide, _, .cons ⟨t, ?_⟩ (.cons ⟨u', rfl⟩ .nil), hTup⟩
      rw [Int.zero_add]
    · have hlt2 : b < s.heap.objs.size := by
        obtain ⟨old, he⟩ := he
        obtain ⟨o, ho, _⟩ := hit
        rcases (by simpa using hb : b = e ∨ b = it) with z | z
        · rw [z]; exact Heap.lt_size he
        · rw [z]; exact Heap.lt_size ho
      rw [upd_ne (Nat.ne_of_lt (Nat.lt_of_lt_of_le hlt2 hT))]
      exact (hf b hb).1
  done := by
    intro X hP hw hK hc i pins s σ H E I hf st hg
    subst hP hw hK
    have hh : X.A.handled = none := I.ok.hd hc
    obtain ⟨he, hit, hne⟩ := st
    have G := GoesN.enumFrom (elts := elts) (x1 := kk) (pos := tpos) 0 (Draws.text (prog := X.prog) (w := X.w) (A := X.A.in1) hh it z tk0) e hne (by simp [hne]) (by simp)
    have hi : i = z.cps.size := by
      have : z.cps.toList.length = i := hg
      simpa using this.symm
    rw [hi] at he hit
    exact G.stops s _ E ⟨he, hit⟩ fun h' tk hk _ => I.turnedL (t' := tk) (ch := [e, it]) hk hf
  self := fun A i s Q E st h => let ⟨⟨_, he⟩, _⟩ := st; wpAny_pyIter_enum he h
def iEnumS (ta : TA) : TI := fun σ H R => ta σ H fun vs H1 => ∃ z, vs = [.str z] ∧ R (IteS z) H1
theorem pi_enumS {X : Cx} {e : Expr} {ta : TA} {p pos tpos : Pos} {elts : List Expr} {kk : Nat} (hg : Gl X "enumerate") (hm : X.mg "enumerate" = none) (ha : PA X [e] ta) (hs : starEach [e] X.env = [(false, eval e X.env)] := by rfl) :
    PI X (.Tuple elts kk tpos) (.Call (.Name "enumerate" p) [e] [] pos) (iEnumS ta) := by
  refine ⟨fun pins s σ H R I h => ?_⟩
  refine Call_ (ld_blt I hg hm boot_enumerate (PyProof.Rows.callWith_type1 (thn (ha.run pos pins s σ H _ I h) fun us s1 ⟨vs, H1, I1, r1, q1⟩ => ?_) hs rfl))
  obtain ⟨z, rfl, q⟩ := q1
  obtain ⟨u, rfl, ru⟩ := vals1 r1
  obtain ⟨tk0, rfl⟩ := ru
  refine call_enum1 (begins_text z tk0) trivial fun h' he hit hk => wpAny_pyIter_enum he ?_
  have I2 : Inv X pins σ H1 { s1 with heap := h' } := I1.kept (t' := s1.toks) hk
  refine ⟨s1.heap.objs.size + 1, [s1.heap.objs.size + 1, s1.heap.objs.size], _, _, H1, rfl, I2, turn_enumS z tk0 (s1.heap.objs.size + 1) s1.heap.objs.size, ⟨⟨.none, by rw [Int.zero_add]; exact he⟩, ⟨_, hit, rfl, rfl⟩, Nat.succ_ne_self _⟩, fun b hb => ?_, q⟩
  have hle : s1.heap.objs.size ≤ b := by
    rcases (by simpa using hb : b = s1.heap.objs.size + 1 ∨ b = s1.heap.objs.size) with z | z <;> rw [z] <;> first | exact Nat.le_add_right _ _ | exact Nat.le_refl _
  exact I1.fpOk hle (I1.hok.fresh hle)
theorem walk_enumS {z : Str} : Walk (IteS z) z.cps.toList.length (fun _ => True) (YPair (fun i => some (.int (i : Nat))) (fun i => z.cps.toList[i]?.map fun c => .str ⟨#[c]⟩)) := by
  refine ⟨fun i _ hi _ => ⟨z.cps.toList[i], by simp [hi]⟩, fun _ _ => rfl, fun i H v H' _ _ y => ?_⟩
  obtain ⟨T, c, h1, h2, h3, h4⟩ := y
  exact ⟨T, .int (i : Nat), .str ⟨#[c]⟩, h1, h2, h3, rfl, by show z.cps.toList[i]?.map _ = _; rw [h4]; rfl⟩
/-- y in d, y not in d, d[y], d[y] = v: d a dict of nested keys -/
def tNNotIn (P : Program) (w : World) (ty td : TE) : TE := fun σ H Q => ty σ H fun y H1 => td σ H1 fun x H2 => ∃ a b rows k, x = .ref a ∧ y = .ref b ∧ H2 a = some (NDO P w a rows) ∧ KeysAt H2 rows ∧ NkAt H2 (.ref b) k ∧ k.depth ≤ 8 ∧ Q (.bl (!(valN rows k).isSome)) H2
def tNGet (P : Program) (w : World) (td ty : TE) : TE := fun σ H Q => td σ H fun x H1 => ty σ H1 fun y H2 => ∃ a b rows k v, x = .ref a ∧ y = .ref b ∧ H2 a = some (NDO P w a rows) ∧ KeysAt H2 rows ∧ NkAt H2 (.ref b) k ∧ k.depth ≤ 8 ∧ valN rows k = some v ∧ Q v H2
def sNPut (P : Program) (w : World) (td ty tv : TE) : TS := fun D σ H => tv σ H fun v H1 => td σ H1 fun x H2 => ty σ H2 fun y H3 => ∃ a b rows k, x = .ref a ∧ y = .ref b ∧ H3 a = some (NDO P w a rows) ∧ KeysAt H3 rows ∧ NkAt H3 (.ref b) k ∧ k.depth ≤ 8 ∧
  rows.length < sizeLine ∧ valN rows k = none ∧ D.nx σ (upd H3 a (NDO P w a (rows ++ [(k, b, v)])))
section
variable {X : Cx} {o i value : Expr} {pos pos' : Pos} {td ty tv : TE}
theorem nroom {A : Around} (hu : A.units + 16 < cLine) : (nestedKind X.prog X.w).room A.in1 := by
  show A.units + 1 + 8 < cLine
  omega
theorem pc_nnotin (hu : X.A.units + 16 < cLine) (hi : PE X i ty) (ho : PE X o td) : PC X .NotIn i o (tNNotIn X.prog X.w ty td) := by
  refine ⟨fun pins s σ H Q I h => ?_⟩
  refine thn (hi.run pins s σ H _ I h) fun iv s1 ⟨y, H1, I1, ry, q1⟩ => thn (ho.run pins s1 σ H1 _ I1 q1) fun u s2 ⟨x, H2, I2, rx, a, b, rows, k, ex, ey, ha, ks, nk, dep, q2⟩ => ?_
  subst ex ey
  cases rx
  cases ry
  obtain ⟨lo, zl, xs, rel, dd⟩ := nd_dict I2 ha ks
  refine wpAny_notIn_heap (knd := nestedKind X.prog X.w) (nroom hu) ⟨nk_is I2 k nk rfl, dep⟩ lo dd ?_
  rcases val_at (k := k) rel with ⟨h1, h2⟩ | ⟨v, p', h1, h2, h3⟩
  · rw [h2]
    rw [h1] at q2
    exact ⟨.bl true, H2, I2.tok _, rfl, q2⟩
  · rw [h2]
    rw [h1] at q2
    exact ⟨.bl false, H2, I2.tok _, rfl, q2⟩
theorem pe_nget (hu : X.A.units + 16 < cLine) (ho : PE X o td) (hi : PE X i ty) (hs : NoSl i) : PE X (.Subscript o i pos) (tNGet X.prog X.w td ty) := by
  refine ⟨fun pins s σ H Q I h => ?_⟩
  refine subD_of PySem.F.slot_dict_getitem.lookup hs (thn (ho.run pins s σ H _ I h) fun u s1 ⟨x, H1, I1, rx, q1⟩ => thn (hi.run pins s1 σ H1 _ I1 q1) fun iv s2 ⟨y, H2, I2, ry, a, b, rows, k, v, ex, ey, ha, ks, nk, dep, hv, q2⟩ => ?_)
  subst ex ey
  cases rx
  cases ry
  obtain ⟨lo, zl, xs, rel, dd⟩ := nd_dict I2 ha ks
  refine ⟨dd.typeIs, ?_⟩
  rcases val_at (k := k) rel with ⟨h1, _⟩ | ⟨v', p', h1, h2, h3⟩
  · rw [hv] at h1
    cases h1
  · rw [hv] at h1
    cases h1
    exact wpAny_getItem_heap (knd := nestedKind X.prog X.w) (nroom hu) ⟨nk_is I2 k nk rfl, dep⟩ dd h2 ⟨v, H2, I2.tok _, h3, q2⟩
theorem ps_nput (hu : X.A.units + 16 < cLine) (ho : PE X o td) (hi : PE X i ty) (hv : PE X value tv) (hs : swapsWith value (some (.Subscript o i pos')) pos.line X.env = pure false) :
    PS X (.Assign [.Subscript o i pos'] value pos) (sNPut X.prog X.w td ty tv) := by
  refine ⟨fun pins s σ H D I h => ?_⟩
  refine wpAny_Assign_Subscript (thn (hv.run pins s σ H _ I h) fun r s1 ⟨v, H1, I1, rv, q1⟩ => thn (ho.run pins s1 σ H1 _ I1 q1) fun u s2 ⟨x, H2, I2, rx, q2⟩ => thn (hi.run pins s2 σ H2 _ I2 q2) fun iv s3 ⟨y, H3, I3, ry, a, b, rows, k, ex, ey, ha, ks, nk, dep, few, hn, q3⟩ => ?_) hs
  subst ex ey
  cases rx
  cases ry
  obtain ⟨lo, zl, xs, rel, dd⟩ := nd_dict I3 ha ks
  have hl := paired_len rel
  refine wpAny_setItem_heap (knd := nestedKind X.prog X.w) (hsz := by rw [← hl]; exact zl) (nroom hu) ⟨nk_is I3 k nk rfl, dep⟩ dd fun h' dd' sb => ?_
  rcases val_at (k := k) rel with ⟨_, h2⟩ | ⟨v', p', h1, _, _⟩
  · rw [storedH_new h2] at dd'
    obtain ⟨o', es, ep, e1, e2, e3, e4, _, e5⟩ := dd'
    have new : NdAt X.prog X.w a (rows ++ [(k, b, v)]) h' := ⟨lo, by rw [List.length_append]; exact few, xs ++ [(k, b, r)], paired_snoc rel ⟨rfl, rfl, rv⟩, o', es, ep, e1, e2, e3, e4, e5⟩
    exact ⟨σ, _, I3.write (e := a) (by rw [ha]; exact True.intro) (.inl rfl) (fun c u hc hu => (sb.2 c hc).trans hu) ⟨o', e1⟩ (nd_new new), q3⟩
  · rw [hn] at h1
    cases h1
end
end SWL
set_option Elab.async false
set_option linter.all false
set_option maxRecDepth 100000
set_option maxHeartbeats 4000000
namespace SWL
open PySem PySem.Spec PyProof.Rows L2 LamX
/-! nested keys as data; d[k] = v where the key may be there; sorted(a dict of nested keys) -/
section
variable {K : PySem.W.Frag} {H : Hp}
mutual
theorem nk_dp : ∀ (k : NestedKey) {x : V}, NkAt H x k → Dp K H x k.data
  | _, _, .int i => .int i
  | _, _, .str z => .str z
  | .tup ks, _, .tup h t => .tup (.inl (.inl h)) (nk_dpAll ks t)
theorem nk_dpAll : ∀ (ks : List NestedKey) {xs : List V}, NkAll H xs ks → DpAll K H xs (NestedKey.datas ks)
  | _, _, .nil => .nil
  | k :: ks, _, .cons h t => .cons (nk_dp k h) (nk_dpAll ks t)
end
end
mutual
theorem data_depth : ∀ k : NestedKey, k.data.depth = k.depth
  | .none => rfl
  | .num _ => rfl
  | .text _ => rfl
  | .tup ks => by
    show PyData.depth (.tuple (NestedKey.datas ks)) = NestedKey.depthAll ks + 1
    rw [PyData.depth, datas_depth ks]
theorem datas_depth : ∀ ks : List NestedKey, PyData.depthAll (NestedKey.datas ks) = NestedKey.depthAll ks
  | [] => rfl
  | k :: ks => by
    show PyData.depthAll (k.data :: NestedKey.datas ks) = max k.depth (NestedKey.depthAll ks)
    rw [PyData.depthAll, data_depth k, datas_depth ks]
end
mutual
theorem eqv_data : ∀ a b : NestedKey, PyData.eqv a.data b.data = NestedKey.beq a b
  | .none, b => by cases b <;> simp [NestedKey.data, NestedKey.beq, PyData.eqv]
  | .num _, b => by cases b <;> simp [NestedKey.data, NestedKey.beq, PyData.eqv, Bool.beq_eq_decide_eq]
  | .text _, b => by cases b <;> simp [NestedKey.data, NestedKey.beq, PyData.eqv, Bool.beq_eq_decide_eq]
  | .tup as, .tup bs => by
    show PyData.eqv (.tuple (NestedKey.datas as)) (.tuple (NestedKey.datas bs)) = NestedKey.beqAll as bs
    rw [PyData.eqv, eqv_datas as bs]
  | .tup as, .none => by simp [NestedKey.data, NestedKey.beq, PyData.eqv]
  | .tup as, .num _ => by simp [NestedKey.data, NestedKey.beq, PyData.eqv]
  | .tup as, .text _ => by simp [NestedKey.data, NestedKey.beq, PyData.eqv]
theorem eqv_datas : ∀ as bs : List NestedKey, PyData.eqvAll (NestedKey.datas as) (NestedKey.datas bs) = NestedKey.beqAll as bs
  | [], [] => by simp [NestedKey.datas, NestedKey.beqAll, PyData.eqvAll]
  | [], _ :: _ => by simp [NestedKey.datas, NestedKey.beqAll, PyData.eqvAll]
  | _ :: _, [] => by simp [NestedKey.datas, NestedKey.beqAll, PyData.eqvAll]
  | a :: as, b :: bs => by
    show PyData.eqvAll (a.data :: NestedKey.datas as) (b.data :: NestedKey.datas bs) = (NestedKey.beq a b && NestedKey.beqAll as bs)
    rw [PyData.eqvAll, eqv_data a b, eqv_datas as bs]
end
theorem eqv_decide (a b : NestedKey) : PyData.eqv a.data b.data = decide (a = b) := by rw [eqv_data, NestedKey.decide_eq]
/-- the order of nested keys that are alike -/
def ltN (x y : NestedKey) : Prop := PySem.W.dataLt x.data y.data = true
theorem ltN_asym (a b : NestedKey) (h : ltN a b) : ¬ ltN b a := fun k => by
  have h1 : (listOrd itemOrd).blt (PySem.W.keyToks a.data) (PySem.W.keyToks b.data) = true := h
  have h2 : (listOrd itemOrd).blt (PySem.W.keyToks b.data) (PySem.W.keyToks a.data) = true := k
  have := (listOrd itemOrd).trans _ _ _ h1 h2
  rw [(listOrd itemOrd).irrefl] at this
  cases this
theorem ltN_tri {a b : NestedKey} (al : PySem.W.alike a.data b.data = true) (h : PySem.W.dataLt b.data a.data = false) (ne : a ≠ b) : ltN a b := by
  unfold ltN
  cases e : PySem.W.dataLt a.data b.data with
  | true => rfl
  | false =>
    have t : PySem.W.keyToks a.data = PySem.W.keyToks b.data := (listOrd itemOrd).total _ _ e h
    have ev : PyData.eqv a.data b.data = false := by rw [eqv_decide]; exact decide_eq_false ne
    have q := (PySem.W.toks_eqv a.data b.data al).2 ev [] [.inl 0]
    rw [t, PySem.W.lex_pre] at q
    have ir : PyProof.Rows.lexLt itemOrd (PySem.W.keyToks b.data) (PySem.W.keyToks b.data) = false := (listOrd itemOrd).irrefl _
    rw [ir] at q
    cases q
theorem pw_ltN : ∀ {ys : List NestedKey}, (∀ x ∈ ys, ∀ y ∈ ys, PySem.W.alike x.data y.data = true) → ys.Pairwise (fun x y => PySem.W.dataLt y.data x.data = false) → ys.Nodup → ys.Pairwise ltN
  | [], _, _, _ => .nil
  | y :: ys, al, pw, nd => by
    obtain ⟨n1, n2⟩ := List.nodup_cons.mp nd
    obtain ⟨p1, p2⟩ := List.pairwise_cons.mp pw
    refine List.pairwise_cons.mpr ⟨fun z hz => ltN_tri (al _ List.mem_cons_self _ (List.mem_cons_of_mem _ hz)) (p1 z hz) fun e => n1 (e ▸ hz), pw_ltN (fun x hx z hz => al x (List.mem_cons_of_mem _ hx) z (List.mem_cons_of_mem _ hz)) p2 n2⟩
def sortN (ks : List NestedKey) : List NestedKey := ks.mergeSort (PySem.W.dataLe false NestedKey.data)
theorem sortN_mem {ks : List NestedKey} {x : NestedKey} : x ∈ sortN ks ↔ x ∈ ks := (List.mergeSort_perm _ _).mem_iff
theorem sortN_rise {ks : List NestedKey} (al : ∀ x ∈ ks, ∀ y ∈ ks, PySem.W.alike x.data y.data = true) (nd : ks.Nodup) : (sortN ks).Pairwise ltN := by
  refine pw_ltN (fun x hx y hy => al x (sortN_mem.mp hx) y (sortN_mem.mp hy)) ?_ ((List.mergeSort_perm _ _).nodup_iff.mpr nd)
  refine List.Pairwise.imp (fun {x y} hxy => ?_) (PySem.W.sort_pairwise (PySem.W.sortLe_total (listOrd itemOrd) false fun y : NestedKey => PySem.W.keyToks y.data) ks)
  have h2 : (!PySem.W.dataLt y.data x.data) = true := hxy
  simpa using h2
/-- keys, each once, as they first come -/
def oneN (acc : List NestedKey) (k : NestedKey) : List NestedKey := if k ∈ acc then acc else acc ++ [k]
def firstsN (ks : List NestedKey) : List NestedKey := ks.foldl oneN []
theorem firstsN_snoc (ks : List NestedKey) (k : NestedKey) : firstsN (ks ++ [k]) = oneN (firstsN ks) k := by
  unfold firstsN
  rw [List.foldl_append]
  rfl
theorem oneN_mem {acc : List NestedKey} {k x : NestedKey} : x ∈ oneN acc k ↔ x ∈ acc ∨ x = k := by
  unfold oneN
  split
  · constructor
    · exact .inl
    · rintro (h | rfl)
      · exact h
      · assumption
  · simp
theorem oneN_nd {acc : List NestedKey} {k : NestedKey} (h : acc.Nodup) : (oneN acc k).Nodup := by
  unfold oneN
  split
  · exact h
  · refine List.nodup_append.mpr ⟨h, by simp, fun a ha b hb e => ?_⟩
    rw [List.mem_singleton.mp hb] at e
    rw [e] at ha
    contradiction
theorem firstsN_mem (ks : List NestedKey) {x : NestedKey} : x ∈ firstsN ks ↔ x ∈ ks := by
  have gen : ∀ (ks acc : List NestedKey), x ∈ ks.foldl oneN acc ↔ x ∈ acc ∨ x ∈ ks := by
    intro ks
    induction ks with
    | nil => intro acc; simp
    | cons k ks ih =>
      intro acc
      rw [List.foldl_cons, ih, oneN_mem, List.mem_cons, or_assoc]
  unfold firstsN
  rw [gen]
  simp
theorem firstsN_nd (ks : List NestedKey) : (firstsN ks).Nodup := by
  have gen : ∀ (ks acc : List NestedKey), acc.Nodup → (ks.foldl oneN acc).Nodup := by
    intro ks
    induction ks with
    | nil => intro acc h; exact h
    | cons k ks ih => intro acc h; exact ih _ (oneN_nd h)
  exact gen ks [] .nil
theorem firstsN_len (ks : List NestedKey) : (firstsN ks).length ≤ ks.length := by
  have gen : ∀ (ks acc : List NestedKey), (ks.foldl oneN acc).length ≤ acc.length + ks.length := by
    intro ks
    induction ks with
    | nil => intro acc; exact Nat.le_refl _
    | cons k ks ih =>
      intro acc
      have h1 := ih (oneN acc k)
      have h2 : (oneN acc k).length ≤ acc.length + 1 := by
        unfold oneN
        split
        · omega
        · rw [List.length_append]
          exact Nat.le_refl _
      rw [List.foldl_cons, List.length_cons]
      omega
  have := gen ks []
  unfold firstsN
  simpa using this
/-- the rows of a dict, k's value set -/
def putN (rows : List NRow) (k : NestedKey) (b : Addr) (v : V) : List NRow := if (valN rows k).isSome = true then rows.map fun r => if r.1 = k then (r.1, r.2.1, v) else r else rows ++ [(k, b, v)]
theorem valN_isSome (k : NestedKey) : ∀ rows : List NRow, ((valN rows k).isSome = true) ↔ k ∈ rows.map (·.1)
  | [] => by simp [valN]
  | r :: rows => by
    have ih := valN_isSome k rows
    unfold valN at ih ⊢
    by_cases c : r.1 = k
    · rw [List.find?_cons_of_pos (by exact decide_eq_true c)]
      simp [c]
    · rw [List.find?_cons_of_neg (by simpa using c), ih, List.map_cons, List.mem_cons]
      constructor
      · exact .inr
      · rintro (h | h)
        · exact absurd h.symm c
        · exact h
theorem putN_keys (rows : List NRow) (k : NestedKey) (b : Addr) (v : V) : (putN rows k b v).map (·.1) = oneN (rows.map (·.1)) k := by
  unfold putN oneN
  by_cases c : (valN rows k).isSome = true
  · rw [if_pos c, if_pos ((valN_isSome k rows).mp c), List.map_map]
    refine List.map_congr_left fun r _ => ?_
    simp only [Function.comp]
    split <;> rfl
  · rw [if_neg c, if_neg (fun h => c ((valN_isSome k rows).mpr h)), List.map_append]
    rfl
theorem putN_len (rows : List NRow) (k : NestedKey) (b : Addr) (v : V) : (putN rows k b v).length ≤ rows.length + 1 := by
  unfold putN
  split
  · rw [List.length_map]; omega
  · rw [List.length_append]; exact Nat.le_refl _
theorem putN_keysAt {H : Hp} {rows : List NRow} {k : NestedKey} {b : Addr} {v : V} (h : KeysAt H rows) (hk : NkAt H (.ref b) k) (hd : k.depth ≤ 8) : KeysAt H (putN rows k b v) := by
  intro r hr
  unfold putN at hr
  split at hr
  · obtain ⟨r0, h0, rfl⟩ := List.mem_map.mp hr
    split <;> exact h r0 h0
  · rcases List.mem_append.mp hr with h1 | h1
    · exact h r h1
    · rw [List.mem_singleton.mp h1]
      exact ⟨hk, hd⟩
theorem paired_put {k : NestedKey} {v : V} {r : Value} (rv : RelV v r) : ∀ {rows : List NRow} {xs : List NRaw}, Paired RowIs rows xs → Paired RowIs (rows.map fun r => if r.1 = k then (r.1, r.2.1, v) else r) (xs.map (putAt k r))
  | _, _, .nil => .nil
  | p :: ps, q :: qs, .cons h t => by
    refine .cons ?_ (paired_put rv t)
    obtain ⟨h1, h2, h3⟩ := h
    unfold putAt
    dsimp only
    by_cases c : p.1 = k
    · rw [if_pos c, if_pos (h1.symm.trans c)]
      exact ⟨h1, h2, rv⟩
    · rw [if_neg c, if_neg (fun e => c (h1.trans e))]
      exact ⟨h1, h2, h3⟩
def sNSet (P : Program) (w : World) (td ty tv : TE) : TS := fun D σ H => tv σ H fun v H1 => td σ H1 fun x H2 => ty σ H2 fun y H3 => ∃ a b rows k, x = .ref a ∧ y = .ref b ∧ H3 a = some (NDO P w a rows) ∧ KeysAt H3 rows ∧ NkAt H3 (.ref b) k ∧ k.depth ≤ 8 ∧
  rows.length < sizeLine ∧ D.nx σ (upd H3 a (NDO P w a (putN rows k b v)))
def rSortN (P : Program) (w : World) : List V → Hp → VK → Prop := fun xs H Q => ∃ a rows, xs = [.ref a] ∧ H a = some (NDO P w a rows) ∧ KeysAt H rows ∧ (∀ x ∈ rows, ∀ y ∈ rows, PySem.W.alike x.1.data y.1.data = true) ∧ (∀ r ∈ rows, ∃ k ks, r.1 = .tup (k :: ks)) ∧
  ∀ (ys : List NRow) p, ys = rows.mergeSort (PySem.W.dataLe false fun r : NRow => r.1.data) → H p = none → Q (.ref p) (upd H p (.lst (ys.map fun r => V.ref r.2.1)))
theorem each_nrefs : ∀ {us : List Value} {ys : List NRow}, PySem.W.EachIs (fun v (y : NRow) => v = Value.ref y.2.1) us ys → Vals (ys.map fun y => V.ref y.2.1) us
  | _, _, .nil => .nil
  | _, _, .cons h t => by
    subst h
    exact .cons rfl (each_nrefs t)
theorem paired_at {α β : Type} {R : α → β → Prop} : ∀ {l : List α} {m : List β}, Paired R l m → ∀ {i : Nat} {b : β}, m[i]? = some b → ∃ a, l[i]? = some a ∧ R a b
  | _, _, .nil, i, b, h => by simp at h
  | _, _, .cons r t, 0, b, h => ⟨_, rfl, by cases (Option.some.inj h); exact r⟩
  | _, _, .cons r t, i + 1, b, h => paired_at t (i := i) h
section
variable {X : Cx} {o i value : Expr} {pos pos' : Pos} {td ty tv : TE}
mutual
theorem nk_reads {pins : List (Addr × Obj)} {σ : L2.St} {H : Hp} {s : Shared} (I : Inv X pins σ H s) : ∀ (k : NestedKey) {x : V} {u : Value}, NkAt H x k → RelV x u → Reads s.heap u k.data []
  | _, _, _, .int i, r => by obtain ⟨t, rfl⟩ := r; exact .int i t
  | _, _, _, .str z, r => by obtain ⟨t, rfl⟩ := r; exact .str z t
  | .tup ks, _, _, @NkAt.tup _ a xs _ h t, r => by
    cases r
    obtain ⟨_, its, rv, o, ho, hc, n, hd⟩ := (show ObjOk X.prog X.w H s.heap a (.tup xs) from I.hok _ _ h)
    exact .tuple ho hc hd (by rw [List.toList_toArray]; exact nk_readsAll I ks t rv)
theorem nk_readsAll {pins : List (Addr × Obj)} {σ : L2.St} {H : Hp} {s : Shared} (I : Inv X pins σ H s) : ∀ (ks : List NestedKey) {xs : List V} {us : List Value}, NkAll H xs ks → Vals xs us → ReadsAll s.heap us (NestedKey.datas ks) []
  | _, _, _, .nil, r => by cases r; exact .nil
  | k :: ks, _, _, .cons h t, r => by
    cases r with
    | cons r1 r2 => exact .cons (as := []) (bs := []) (nk_reads I k h r1) (nk_readsAll I ks t r2)
end
theorem ps_nset (hu : X.A.units + 16 < cLine) (ho : PE X o td) (hi : PE X i ty) (hv : PE X value tv) (hs : swapsWith value (some (.Subscript o i pos')) pos.line X.env = pure false) :
    PS X (.Assign [.Subscript o i pos'] value pos) (sNSet X.prog X.w td ty tv) := by
  refine ⟨fun pins s σ H D I h => ?_⟩
  refine wpAny_Assign_Subscript (thn (hv.run pins s σ H _ I h) fun r s1 ⟨v, H1, I1, rv, q1⟩ => thn (ho.run pins s1 σ H1 _ I1 q1) fun u s2 ⟨x, H2, I2, rx, q2⟩ => thn (hi.run pins s2 σ H2 _ I2 q2) fun iv s3 ⟨y, H3, I3, ry, a, b, rows, k, ex, ey, ha, ks, nk, dep, few, q3⟩ => ?_) hs
  subst ex ey
  cases rx
  cases ry
  obtain ⟨lo, zl, xs, rel, dd⟩ := nd_dict I3 ha ks
  have hl := paired_len rel
  refine wpAny_setItem_heap (knd := nestedKind X.prog X.w) (hsz := by rw [← hl]; exact zl) (nroom hu) ⟨nk_is I3 k nk rfl, dep⟩ dd fun h' dd' sb => ?_
  have pr : Paired RowIs (putN rows k b v) (storedH xs k b r) := by
    unfold putN
    rcases val_at (k := k) rel with ⟨h1, h2⟩ | ⟨v', p', h1, h2, _⟩
    · rw [if_neg (by rw [h1]; exact Bool.false_ne_true), storedH_new h2]
      exact paired_snoc rel ⟨rfl, rfl, rv⟩
    · rw [if_pos (by rw [h1]; rfl), storedH_old h2]
      exact paired_put rv rel
  obtain ⟨o', es, ep, e1, e2, e3, e4, _, e5⟩ := dd'
  have new : NdAt X.prog X.w a (putN rows k b v) h' := ⟨lo, by have := putN_len rows k b v; omega, storedH xs k b r, pr, o', es, ep, e1, e2, e3, e4, e5⟩
  exact ⟨σ, _, I3.write (e := a) (by rw [ha]; exact True.intro) (.inl rfl) (fun c u hc hu => (sb.2 c hc).trans hu) ⟨o', e1⟩ (nd_new new), q3⟩
theorem cr_sortedN (hc : X.calm = true) (hu : X.A.units + 64 < cLine) : CallR X (.builtin "sorted") (rSortN X.prog X.w) := by
  intro pins s σ H xs us Q I r h
  obtain ⟨d, rows, rfl, ha, ks, hal, hne, q⟩ := h
  rw [Vals.ref1 r]
  obtain ⟨lo, hz, xs, rel, hd⟩ := nd_dict I ha ks
  have hl := paired_len rel
  have hh := I.ok.hd hc
  obtain ⟨es, ep, hr, hsz, hent⟩ := hd.raw
  have e0 : es.size ≤ sizeLine := by rw [hsz, ← hl]; exact hz
  refine Calls.call_function_entry kind_sorted plain_sorted entry_sorted (args_sorted1 _) ?_
  unfold Builtin.«sorted»
  refine wpAny_bind (m := checkCount "sorted" 1 1 _) (wpAny_pure ?_)
  refine wpAny_bind (PySem.W.kdu_collect (A := X.A.in1) (KdlSrc.rawDict lo) hh hr e0 fun h' tk acc hk hacc => ?_)
  have hal2 : acc.size = rows.length := by rw [hacc.1, hsz, hl]
  have hE : PySem.W.EachIs (fun v (y : NRow) => v = Value.ref y.2.1) acc.toList rows := by
    refine PySem.W.EachIs.of_zip (by rw [Array.length_toList]; exact hal2) fun p hp => ?_
    obtain ⟨i, hi⟩ := List.getElem?_of_mem hp
    rw [List.getElem?_zip_eq_some] at hi
    obtain ⟨hi', e⟩ := hacc.2 i p.1 (by rw [← Array.getElem?_toList]; exact hi.1)
    obtain ⟨y, hy, e2, _, _⟩ := hent i hi'
    obtain ⟨a, ea, ra⟩ := paired_at rel hy
    rw [hi.2] at ea
    cases ea
    rw [ra.2.1]
    exact e.trans e2
  have I1 : Inv X pins σ H { s with heap := h', toks := tk } := I.kept hk
  have hzl : acc.toList.length ≤ sizeLine := by rw [Array.length_toList, hal2]; exact hz
  refine wpAny_bind (wpAny_newList ?_ hzl)
  have hoL : (h'.push (seqObj "list" acc.toList.toArray 0)).get? h'.objs.size = some (seqObj "list" acc.toList.toArray 0) := Heap.get?_push_size _ rfl
  have kp : ∀ b o, s.heap.get? b = some o → (h'.push (seqObj "list" acc.toList.toArray 0)).get? b = some o := fun b o e => Heap.get?_push_of_some _ (hk b o e)
  show wpAny _ _ _ _ _ { s with heap := h'.push (seqObj "list" acc.toList.toArray 0), toks := tk }
  have hR : PySem.W.EachIs (fun v (y : NRow) => ∃ as, Reads (h'.push (seqObj "list" acc.toList.toArray 0)) v y.1.data as ∧ h'.objs.size ∉ as) acc.toList rows := by
    refine (PySem.W.each_mem hE).mono fun v y ⟨e, hy⟩ => ⟨[], ?_, by simp⟩
    subst e
    exact PyProof.Rows.Reads.keeps kp (nk_reads I _ (ks y hy).1 rfl)
  refine wpAny_bind (wpAny_holding ?_)
  refine PySem.W.list_sort_data (s := { s with heap := h'.push (seqObj "list" acc.toList.toArray 0), toks := tk }) (enc := fun y : NRow => y.1.data) (bs := rows) hoL hE hR (fun dd hdd dd' hdd' => ?_) (.inl fun dd hdd => ?_) hz (fun y hy => ?_) fun out hlen ho => ?_
  · obtain ⟨x, hx, rfl⟩ := List.mem_map.mp hdd
    obtain ⟨y, hy, rfl⟩ := List.mem_map.mp hdd'
    exact hal x hx y hy
  · obtain ⟨y, hy, rfl⟩ := List.mem_map.mp hdd
    obtain ⟨k, kk, e⟩ := hne y hy
    exact ⟨k.data, NestedKey.datas kk, by show y.1.data = _; rw [e]; rfl⟩
  · rw [data_depth]
    have := (ks y hy).2
    show X.A.units + 1 + 1 + y.1.depth < cLine
    omega
  · obtain ⟨c, hc2⟩ := sortedHeap_at (vs := acc.toList) (out := out.toArray) hoL
    have hv := each_nrefs ho
    have hlen2 : ((rows.mergeSort (PySem.W.dataLe false fun y : NRow => y.1.data)).map fun y => V.ref y.2.1).length ≤ sizeLine := by
      rw [List.length_map, List.length_mergeSort]
      exact hz
    refine wpAny_pure ⟨_, rfl, .ref h'.objs.size, upd H h'.objs.size _, I1.laid (t' := tk) (fun b u e => ?_) (Nat.le_refl _) (show ObjOk X.prog X.w _ _ _ (.lst _) from ⟨hlen2, out, c, hv, hc2⟩), rfl, q _ _ rfl (I1.hok.fresh (Nat.le_refl _))⟩
    have hb : b < h'.objs.size := Heap.lt_size e
    exact (sortedHeap_old (Nat.ne_of_lt hb) (by rw [size_push']; exact Nat.lt_succ_of_lt hb)).trans (Heap.get?_push_of_some _ e)
end
end SWL
set_option Elab.async false
set_option linter.all false
set_option maxRecDepth 100000
set_option maxHeartbeats 4000000
namespace SWL
open PySem PySem.Spec PyProof.Rows L2 LamX
/-! one, *others = a tuple -/
def gStar (K : PySem.W.Frag) (t1 t2 : TG) : TG := fun v σ H Q => ∃ (a : Addr) (x : V) (xs : List V), v = .ref a ∧ SqT K H a (x :: xs) ∧ xs.length ≤ 10000 ∧ ∀ D, H D = none → t1 x σ (upd H D (.lst xs)) fun σ1 H1 => t2 (.ref D) σ1 H1 Q
section
variable {X : Cx}
theorem pg_star {e e2 : Expr} {k : Nat} {p pos : Pos} {t1 t2 : TG} (hc : X.calm = true) (h1 : PG X e t1) (h2 : PG X e2 t2) (hne : assignEach [e, .Starred e2 p] X.env = [(false, assign e X.env), (true, assign e2 X.env)] := by rfl) :
    PG X (.Tuple [e, .Starred e2 p] k pos) (gStar X.K t1 t2) := by
  refine ⟨fun pins s σ H v u Q I r hw => ?_⟩
  obtain ⟨a, x, xs, rfl, hq, hl, hw⟩ := hw
  cases r
  obtain ⟨its, rv, ht, hz⟩ := I.tuple hq
  cases rv with
  | @cons _ u1 _ us r1 rr =>
  have hus : us.length ≤ 10000 := by rw [← rr.length]; exact hl
  have sz : sizeLine = 16777216 := sizeLine_eq
  have ha : a < s.heap.objs.size := by obtain ⟨o, ho, _⟩ := ht; exact Heap.lt_size ho
  rw [assign_Tuple]
  refine wpAny_bind (wpAny_standAt ?_)
  unfold unpack
  rw [hne]
  refine wpAny_bind (wpAny_holding ?_)
  show wpAny _ _ (unpackItems (.ref a) 2 (some 1)) _ _ _
  unfold unpackItems
  refine wpAny_bind ?_
  unfold notIterableAtAll
  refine wpAny_bind (wpAny_specialOf ht.typeIs slot_tuple_iter.lookup (wpAny_pure ?_))
  rw [if_neg (by decide)]
  refine wpAny_bind (wpAny_holding (iter_tuple ht ?_))
  have ht1 : IsTup (s.heap.push { cls := .type "tuple_iterator", data := .fields #[.ref a, .int 0 0] }) a (u1 :: us).toArray := ht.push _
  refine wpAny_bind (wpAny_holding (draw_tuple (Nat.ne_of_lt ha) 1 0 _ _ ⟨_, Heap.get?_push_size _ rfl, rfl, rfl⟩ ht1 (by simp) fun h1' hit hs1 => ?_))
  have ht2 := ht1.extBut hs1.extBut (Nat.ne_of_lt ha)
  rw [Nat.zero_add] at hit
  obtain ⟨oi, hoi, _⟩ := id hit
  obtain ⟨ot, hot, _⟩ := id ht2
  show wpAny _ _ (if ((u1 :: us).drop 0 |>.take 1).length < 1 then _ else _) _ _ _
  rw [if_neg (by simp)]
  refine wpAny_bind (wpAny_holding (PySem.W.kun_collect (s := { s with heap := h1' }) (T := "tuple_iterator") (.inr (.inr (.inr rfl))) (Walks.tuple (A := X.A.in1) (I.ok.hd hc) s.heap.objs.size a (Nat.ne_of_lt ha) (u1 :: us).toArray) (fun j u st => st.1.typeIs) (k := 1) (by simp) ⟨hit, ht2⟩ (Heap.lt_size hoi) (Heap.lt_size hot) (fun h2' tk hk => ?_) (by simp; omega)))
  show wpAny _ _ (if us.length < 0 then _ else _) _ _ _
  rw [if_neg (by omega)]
  refine wpAny_bind (wpAny_newList ?_ (by show (us.take (us.length - 0)).length ≤ sizeLine; rw [List.length_take]; omega))
  have keep : ∀ b o, s.heap.get? b = some o → h2'.get? b = some o := fun b o eb => hk b o (Nat.ne_of_lt (Heap.lt_size eb)) (hs1.extBut b o (Nat.ne_of_lt (Heap.lt_size eb)) (Heap.get?_push_of_some _ eb))
  have I2 : Inv X pins σ H { s with heap := h2', toks := tk } := I.kept keep
  have I3 : Inv X pins σ (upd H h2'.objs.size (.lst xs)) { s with heap := h2'.push { cls := .type "list", data := .seq us.toArray }, toks := tk } :=
    I2.laid (t' := tk) (o := .lst xs) (fun b ob q => Heap.get?_push_of_some _ q) (Nat.le_refl _) ⟨by omega, us, 0, rr, Heap.get?_push_size _ rfl⟩
  have e1 : (us.take (us.length - 0)) = us := by rw [Nat.sub_zero, List.take_length]
  have e2 : us.drop (us.length - 0) = [] := by rw [Nat.sub_zero, List.drop_length]
  show wpAny _ _ (pure (((u1 :: us).drop 0 |>.take 1) ++ [Value.ref h2'.objs.size] ++ us.drop (us.length - 0))) _ _ { s with heap := h2'.push { cls := .type "list", data := .seq (us.take (us.length - 0)).toArray }, toks := tk }
  rw [e1, e2]
  refine wpAny_pure ?_
  refine assignInOrder_cons (thn (h1.run pins _ σ _ x u1 _ I3 r1 (hw _ (I2.hok.fresh (Nat.le_refl _)))) fun _ s4 ⟨σ1, H1, I4, q4⟩ => ?_)
  refine assignInOrder_cons (thn (h2.run pins s4 σ1 H1 (.ref h2'.objs.size) _ _ I4 rfl q4) fun _ s5 q5 => ?_)
  exact assignInOrder_nil q5
end
end SWL
set_option Elab.async false
set_option linter.all false
set_option maxRecDepth 100000
set_option maxHeartbeats 4000000
namespace SWL
open PySem PySem.Spec PyProof.Rows L2 LamX
/-! list(range(i, j, k)) -/
def rgC (i k : Int) (n : Nat) : List V := (List.range n).map fun (m : Nat) => V.int (i + ((m : Nat) : Int) * k)
theorem rgC_len (i k : Int) (n : Nat) : (rgC i k n).length = n := by unfold rgC; rw [List.length_map, List.length_range]
theorem vals_rgC {i k : Int} {n : Nat} {acc : Array Value} (h : ItemsOf (fun m v => ∃ t, v = .int (i + m * k) t) acc n) : Vals (rgC i k n) acc.toList := by
  have e : acc.toList.length = n := by rw [Array.length_toList]; exact h.1
  unfold rgC
  rw [← e]
  refine vals_of_get acc.toList _ fun j u hj => ?_
  obtain ⟨t, rfl⟩ := h.2 j u (by rw [← hj, Array.getElem?_toList])
  exact ⟨t, rfl⟩
def tLstRg3 (ta : TA) : TE := fun σ H Q => ta σ H fun vs H1 => ∃ (i j k : Int) (n : Nat), vs = [.int i, .int j, .int k] ∧ RgC i j k n ∧ n ≤ 10000 ∧ ∀ q, H1 q = none → Q (.ref q) (upd H1 q (.lst (rgC i k n)))
section
variable {X : Cx}
theorem pe_listRg3 {a b c : Expr} {ta : TA} {p pos p' pos' : Pos} (hc : X.calm = true) (hg : Gl X "list") (hm : X.mg "list" = none) (hg' : Gl X "range") (hm' : X.mg "range" = none) (ha : PA X [a, b, c] ta)
    (hs : starEach [a, b, c] X.env = (false, eval a X.env) :: starEach [b, c] X.env := by rfl) (hpl : (backTo pos' (starEach [b, c] X.env)).any (·.1) = false := by rfl)
    (na : starEach [Expr.Call (.Name "range" p') [a, b, c] [] pos'] X.env = (false, eval (Expr.Call (.Name "range" p') [a, b, c] [] pos') X.env) :: starEach [] X.env := by rfl) :
    PE X (.Call (.Name "list" p) [.Call (.Name "range" p') [a, b, c] [] pos'] [] pos) (tLstRg3 ta) := by
  refine ⟨fun pins s σ H Q I h => ?_⟩
  have he : wpAny (model X.prog X.w) X.A (eval (Expr.Call (.Name "range" p') [a, b, c] [] pos') X.env) (fun x s' => ∃ r i j k n t u v H', x = .ref r ∧ IsRange s'.heap r i j k t u v ∧ Inv X pins σ H' s' ∧ RgC i j k n ∧ n ≤ 10000 ∧ ∀ q, H' q = none → Q (.ref q) (upd H' q (.lst (rgC i k n)))) X.xe s := by
    refine Call_ (ld_blt I hg' hm' boot_range (PyProof.Rows.callWith_type1 (thn (ha.run pos' pins s σ H _ I h) fun us s1 ⟨vs, H1, I1, r1, q1⟩ => ?_) hs hpl))
    obtain ⟨i, j, k, n, e, ok, hn, q⟩ := q1
    subst e
    cases r1 with
    | cons r rr =>
      cases rr with
      | cons r' rr =>
        cases rr with
        | cons r'' rr =>
          cases rr
          obtain ⟨t, rfl⟩ := r
          obtain ⟨t', rfl⟩ := r'
          obtain ⟨t'', rfl⟩ := r''
          refine call_range_3 ok.1 ?_ (.inl (PyProof.noPylong_small ok.2.1))
          exact ⟨_, i, j, k, n, _, _, _, H1, rfl, IsRange.new .., I1.kept (t' := s1.toks) fun b o e => Heap.get?_push_of_some _ e, ok, hn, q⟩
  refine Call_ (ld_blt I hg hm boot_list (PyProof.Rows.callWith_type1 (args_cons (thn he fun x s1 ⟨r, i, j, k, n, t, u, v, H1, ex, hr, I1, ok, hn, q⟩ => args_nil ?_) na) na))
  subst ex
  refine call_list_range (n := n) (I1.ok.hd hc) hr ok.2.2.1 ok.2.2.2 (by omega) fun h' tk acc c' hk e' hi => ?_
  refine ⟨.ref s1.heap.objs.size, upd H1 s1.heap.objs.size (.lst (rgC i k n)), I1.laid hk (Nat.le_refl _) (show ObjOk X.prog X.w _ _ _ (.lst (rgC i k n)) from ⟨?_, acc.toList, c', vals_rgC hi, ?_⟩), rfl, q _ (I1.hok.fresh (Nat.le_refl _))⟩
  · rw [rgC_len, sizeLine_eq]; omega
  · rw [Array.toArray_toList]; exact e'
end
end SWL
set_option Elab.async false
set_option linter.all false
set_option maxRecDepth 100000
set_option maxHeartbeats 4000000
namespace SWL
open PySem PySem.Spec PyProof.Rows L2 LamX
/-! one, *others = a list -/
def gStarL (K : PySem.W.Frag) (t1 t2 : TG) : TG := fun v σ H Q => ∃ (a : Addr) (x : V) (xs : List V), v = .ref a ∧ SqL K H a (x :: xs) ∧ xs.length ≤ 10000 ∧ ∀ D, H D = none → t1 x σ (upd H D (.lst xs)) fun σ1 H1 => t2 (.ref D) σ1 H1 Q
section
variable {X : Cx}
theorem pg_starL {e e2 : Expr} {k : Nat} {p pos : Pos} {t1 t2 : TG} (hc : X.calm = true) (h1 : PG X e t1) (h2 : PG X e2 t2) (hne : assignEach [e, .Starred e2 p] X.env = [(false, assign e X.env), (true, assign e2 X.env)] := by rfl) :
    PG X (.Tuple [e, .Starred e2 p] k pos) (gStarL X.K t1 t2) := by
  refine ⟨fun pins s σ H v u Q I r hw => ?_⟩
  obtain ⟨a, x, xs, rfl, hq, hl, hw⟩ := hw
  cases r
  obtain ⟨its, rv, ht0, hz⟩ := I.list hq
  cases rv with
  | @cons _ u1 _ us r1 rr =>
  have hus : us.length ≤ 10000 := by rw [← rr.length]; exact hl
  have sz : sizeLine = 16777216 := sizeLine_eq
  have ht : s.heap.IsList a (u1 :: us).toArray := ht0.isList
  have ha : a < s.heap.objs.size := by obtain ⟨o, ho, _⟩ := ht; exact Heap.lt_size ho
  rw [assign_Tuple]
  refine wpAny_bind (wpAny_standAt ?_)
  unfold unpack
  rw [hne]
  refine wpAny_bind (wpAny_holding ?_)
  show wpAny _ _ (unpackItems (.ref a) 2 (some 1)) _ _ _
  unfold unpackItems
  refine wpAny_bind ?_
  unfold notIterableAtAll
  refine wpAny_bind (wpAny_specialOf ht.typeIs slot_list_iter.lookup (wpAny_pure ?_))
  rw [if_neg (by decide)]
  refine wpAny_bind (wpAny_holding (wpAny_pyIter_list ht ?_))
  have ht1 : (s.heap.push { cls := .type "list_iterator", data := .fields #[.ref a, .int 0 0] }).IsList a (u1 :: us).toArray := ht.push _
  refine wpAny_bind (wpAny_holding (PySem.W.kun_draw (Nat.ne_of_lt ha) 1 0 _ _ ⟨_, Heap.get?_push_size _ rfl, rfl, rfl⟩ ht1 (by simp) fun h1' hit hs1 => ?_))
  have ht2 := ht1.extBut hs1.extBut (Nat.ne_of_lt ha)
  rw [Nat.zero_add] at hit
  obtain ⟨oi, hoi, _⟩ := id hit
  obtain ⟨ot, hot, _⟩ := id ht2
  show wpAny _ _ (if ((u1 :: us).drop 0 |>.take 1).length < 1 then _ else _) _ _ _
  rw [if_neg (by simp)]
  refine wpAny_bind (wpAny_holding (PySem.W.kun_collect (s := { s with heap := h1' }) (T := "list_iterator") (.inr (.inr (.inl rfl))) (Walks.list (A := X.A.in1) (I.ok.hd hc) s.heap.objs.size a (Nat.ne_of_lt ha) (u1 :: us).toArray) (fun j u st => st.1.typeIs) (k := 1) (by simp) ⟨hit, ht2⟩ (Heap.lt_size hoi) (Heap.lt_size hot) (fun h2' tk hk => ?_) (by simp; omega)))
  show wpAny _ _ (if us.length < 0 then _ else _) _ _ _
  rw [if_neg (by omega)]
  refine wpAny_bind (wpAny_newList ?_ (by show (us.take (us.length - 0)).length ≤ sizeLine; rw [List.length_take]; omega))
  have keep : ∀ b o, s.heap.get? b = some o → h2'.get? b = some o := fun b o eb => hk b o (Nat.ne_of_lt (Heap.lt_size eb)) (hs1.extBut b o (Nat.ne_of_lt (Heap.lt_size eb)) (Heap.get?_push_of_some _ eb))
  have I2 : Inv X pins σ H { s with heap := h2', toks := tk } := I.kept keep
  have I3 : Inv X pins σ (upd H h2'.objs.size (.lst xs)) { s with heap := h2'.push { cls := .type "list", data := .seq us.toArray }, toks := tk } :=
    I2.laid (t' := tk) (o := .lst xs) (fun b ob q => Heap.get?_push_of_some _ q) (Nat.le_refl _) ⟨by omega, us, 0, rr, Heap.get?_push_size _ rfl⟩
  have e1 : (us.take (us.length - 0)) = us := by rw [Nat.sub_zero, List.take_length]
  have e2 : us.drop (us.length - 0) = [] := by rw [Nat.sub_zero, List.drop_length]
  show wpAny _ _ (pure (((u1 :: us).drop 0 |>.take 1) ++ [Value.ref h2'.objs.size] ++ us.drop (us.length - 0))) _ _ { s with heap := h2'.push { cls := .type "list", data := .seq (us.take (us.length - 0)).toArray }, toks := tk }
  rw [e1, e2]
  refine wpAny_pure ?_
  refine assignInOrder_cons (thn (h1.run pins _ σ _ x u1 _ I3 r1 (hw _ (I2.hok.fresh (Nat.le_refl _)))) fun _ s4 ⟨σ1, H1, I4, q4⟩ => ?_)
  refine assignInOrder_cons (thn (h2.run pins s4 σ1 H1 (.ref h2'.objs.size) _ _ I4 rfl q4) fun _ s5 q5 => ?_)
  exact assignInOrder_nil q5
end
end SWL
set_option Elab.async false
set_option linter.all false
set_option maxRecDepth 100000
set_option maxHeartbeats 4000000
namespace SWL
open PySem PySem.Spec PyProof.Rows L2 LamX
/-! formulas, as mathematics -/
abbrev Wl := List Nat
def sg (c : Nat) : Str := ⟨#[c]⟩
theorem sg_inj {c d : Nat} (h : sg c = sg d) : c = d := by
  have : (#[c] : Array Nat) = #[d] := congrArg Str.cps h
  simpa using this
/-- a row -/
inductive Ro where
  | tru
  | let_ (c : Nat)
  | nt (i : Nat)
  | an (i j : Nat)
  | or_ (i j : Nat)
  | la (i : Nat)
  | ea (i : Nat)
deriving DecidableEq
def nV (i : Nat) : V := .int ((i : Nat) : Int)
def Ro.vs : Ro → List V
  | .tru => [.str "true"]
  | .let_ c => [.str "letter", .str (sg c)]
  | .nt i => [.str "not", nV i]
  | .an i j => [.str "and", nV i, nV j]
  | .or_ i j => [.str "or", nV i, nV j]
  | .la i => [.str "later", nV i]
  | .ea i => [.str "earlier", nV i]
def Ro.refs : Ro → List Nat
  | .tru => []
  | .let_ _ => []
  | .nt i => [i]
  | .an i j => [i, j]
  | .or_ i j => [i, j]
  | .la i => [i]
  | .ea i => [i]
def Ro.turned : Ro → Bool
  | .la _ => true
  | .ea _ => true
  | _ => false
/-- a row that may stand at a place -/
def Ro.ok (ls : Str) (n : Nat) (r : Ro) : Prop := (∀ i ∈ r.refs, i < n) ∧ ∀ c, r = .let_ c → c ∈ ls.cps.toList
def FOk (ls : Str) (F : List Ro) : Prop := ∀ (k : Nat) (r : Ro), F[k]? = some r → r.ok ls k
theorem FOk.snoc {ls : Str} {F : List Ro} {r : Ro} (h : FOk ls F) (hr : r.ok ls F.length) : FOk ls (F ++ [r]) := fun k r' hk => by
  by_cases c : k < F.length
  · rw [List.getElem?_append_left c] at hk
    exact h k r' hk
  · rw [List.getElem?_append_right (by omega)] at hk
    have h0 : k - F.length = 0 := by
      have := (List.getElem?_eq_some_iff.mp hk).1
      simp only [List.length_singleton] at this
      omega
    rw [h0] at hk
    rw [← Option.some.inj hk, show k = F.length by omega]
    exact hr
/-! how deep -/
def mx (l : List Nat) : Nat := l.foldl max 0
theorem mx_foldl (l : List Nat) (a : Nat) : l.foldl max a = max a (mx l) := by
  induction l generalizing a with
  | nil => show a = max a 0; omega
  | cons x l ih =>
    show l.foldl max (max a x) = max a (l.foldl max (max 0 x))
    rw [ih, ih]
    omega
theorem mx_le {l : List Nat} {x : Nat} (h : x ∈ l) : x ≤ mx l := by
  induction l with
  | nil => cases h
  | cons y l ih =>
    have e : mx (y :: l) = max y (mx l) := by
      show l.foldl max (max 0 y) = _
      rw [mx_foldl]
      omega
    rw [e]
    rcases List.mem_cons.mp h with rfl | h
    · omega
    · have := ih h
      omega
theorem mx_mem : ∀ l : List Nat, mx l ∈ l ++ [0]
  | [] => List.mem_cons_self
  | y :: l => by
    have e : mx (y :: l) = max y (mx l) := by
      show l.foldl max (max 0 y) = _
      rw [mx_foldl]
      omega
    have ih := mx_mem l
    rw [e]
    by_cases c : mx l ≤ y
    · rw [Nat.max_eq_left c]
      exact List.mem_cons_self
    · rw [Nat.max_eq_right (by omega)]
      exact List.mem_cons_of_mem _ ih
theorem mx_eq {l : List Nat} {m : Nat} (h1 : m ∈ l ++ [0]) (h2 : ∀ y ∈ l ++ [0], y ≤ m) : mx l = m := by
  have a := h2 _ (mx_mem l)
  rcases List.mem_append.mp h1 with h | h
  · have := mx_le h
    omega
  · rw [List.mem_singleton.mp h] at a ⊢
    omega
def dep1 (ds : List Nat) (r : Ro) : Nat := mx (r.refs.map fun i => ds.getD i 0) + if r.turned = true then 1 else 0
def deps (F : List Ro) : List Nat := F.foldl (fun ds r => ds ++ [dep1 ds r]) []
theorem deps_snoc (F : List Ro) (r : Ro) : deps (F ++ [r]) = deps F ++ [dep1 (deps F) r] := by
  unfold deps
  rw [List.foldl_append]
  rfl
theorem foldl_len {α β : Type} (f : List β → α → β) (l : List α) : ∀ a : List β, (l.foldl (fun ds r => ds ++ [f ds r]) a).length = a.length + l.length := by
  induction l with
  | nil => intro a; rfl
  | cons x l ih =>
    intro a
    show (l.foldl _ (a ++ [f a x])).length = _
    rw [ih, List.length_append]
    simp only [List.length_cons, List.length_nil]
    omega
theorem foldl_pre {α β : Type} (f : List β → α → β) (l : List α) : ∀ (a : List β) (k : Nat), k < a.length → (l.foldl (fun ds r => ds ++ [f ds r]) a)[k]? = a[k]? := by
  induction l with
  | nil => intro a k _; rfl
  | cons x l ih =>
    intro a k hk
    show (l.foldl _ (a ++ [f a x]))[k]? = _
    rw [ih _ k (by rw [List.length_append]; omega), List.getElem?_append_left hk]
theorem deps_len (F : List Ro) : (deps F).length = F.length := by
  unfold deps
  rw [foldl_len]
  simp
theorem deps_app (A B : List Ro) {k : Nat} (hk : k < A.length) : (deps (A ++ B))[k]? = (deps A)[k]? := by
  unfold deps
  rw [List.foldl_append]
  exact foldl_pre dep1 B (A.foldl _ []) k (by have := deps_len A; unfold deps at this; omega)
theorem dep1_congr {ds es : List Nat} {r : Ro} {n : Nat} (h : ∀ i ∈ r.refs, i < n) (e : ∀ i < n, ds[i]? = es[i]?) : dep1 ds r = dep1 es r := by
  unfold dep1
  have : (r.refs.map fun i => ds.getD i 0) = r.refs.map fun i => es.getD i 0 := List.map_congr_left fun i hi => by
    rw [List.getD_eq_getElem?_getD, List.getD_eq_getElem?_getD, e i (h i hi)]
  rw [this]
theorem take_split {α : Type} {F : List α} {k : Nat} {r : α} (h : F[k]? = some r) : F = F.take k ++ ([r] ++ F.drop (k + 1)) := by
  obtain ⟨hk, e⟩ := List.getElem?_eq_some_iff.mp h
  rw [List.singleton_append, ← e, ← List.drop_eq_getElem_cons hk, List.take_append_drop]
theorem deps_get {ls : Str} {F : List Ro} (ok : FOk ls F) {k : Nat} {r : Ro} (h : F[k]? = some r) : (deps F)[k]? = some (dep1 (deps F) r) := by
  have hk := (List.getElem?_eq_some_iff.mp h).1
  have sp := take_split h
  have hl : (F.take k).length = k := by rw [List.length_take]; omega
  have e1 : (deps F)[k]? = (deps (F.take k ++ [r]))[k]? := by
    conv => lhs; rw [sp, ← List.append_assoc]
    exact deps_app _ _ (by rw [List.length_append, hl]; simp)
  rw [e1, deps_snoc, List.getElem?_append_right (by rw [deps_len, hl]; omega), deps_len, hl, Nat.sub_self]
  show some _ = some _
  congr 1
  refine dep1_congr (ok k r h).1 fun i hi => ?_
  conv => rhs; rw [sp]
  exact (deps_app _ _ (by rw [hl]; exact hi)).symm
/-! what is true where -/
def cellB (tab : List (List Bool)) (i p : Nat) : Bool := ((tab.getD i []).getD p false)
def rowAt (tab : List (List Bool)) (w : Wl) (p : Nat) : Ro → Bool
  | .tru => true
  | .let_ c => decide (0 < p) && decide (w[p - 1]? = some c)
  | .nt i => !cellB tab i p
  | .an i j => cellB tab i p && cellB tab j p
  | .or_ i j => cellB tab i p || cellB tab j p
  | .la i => ((tab.getD i []).drop (p + 1)).any id
  | .ea i => (((tab.getD i []).take p).drop 1).any id
def rowLine (w : Wl) (tab : List (List Bool)) (r : Ro) : List Bool := (List.range (w.length + 1)).map fun p => rowAt tab w p r
def tableF (w : Wl) (F : List Ro) : List (List Bool) := F.foldl (fun tab r => tab ++ [rowLine w tab r]) []
def saysB (F : List Ro) (w : Wl) : Bool := cellB (tableF w F) (F.length - 1) 0
theorem table_snoc (w : Wl) (F : List Ro) (r : Ro) : tableF w (F ++ [r]) = tableF w F ++ [rowLine w (tableF w F) r] := by
  unfold tableF
  rw [List.foldl_append]
  rfl
theorem table_len (w : Wl) (F : List Ro) : (tableF w F).length = F.length := by
  unfold tableF
  rw [foldl_len]
  simp
theorem line_len (w : Wl) (tab : List (List Bool)) (r : Ro) : (rowLine w tab r).length = w.length + 1 := by
  unfold rowLine
  rw [List.length_map, List.length_range]
theorem table_lines {w : Wl} : ∀ (F : List Ro), ∀ l ∈ tableF w F, l.length = w.length + 1 := by
  intro F
  unfold tableF
  have gen : ∀ (F : List Ro) (a : List (List Bool)), (∀ l ∈ a, l.length = w.length + 1) → ∀ l ∈ F.foldl (fun tab r => tab ++ [rowLine w tab r]) a, l.length = w.length + 1 := by
    intro F
    induction F with
    | nil => intro a h; exact h
    | cons r F ih =>
      intro a h
      refine ih (a ++ [rowLine w a r]) fun l hl => ?_
      rcases List.mem_append.mp hl with hl | hl
      · exact h l hl
      · rw [List.mem_singleton.mp hl]
        exact line_len _ _ _
  exact gen F [] fun l hl => by cases hl
/-! any thing as a formula -/
def numB (at_ : Nat) : V → Bool
  | .int i => decide (0 ≤ i ∧ i ≤ (at_ : Int) - 1)
  | _ => false
def oneL (ls : Str) : V → Bool
  | .str z => decide (z.length = 1) && z.cps.toList.all (fun c => decide (c ∈ ls.cps.toList))
  | _ => false
def sizeW (w : Str) : Option Nat := if w = "true" then some 0 else if w = "not" then some 1 else if w = "and" then some 2 else if w = "or" then some 2 else if w = "later" then some 1 else if w = "earlier" then some 1 else none
def letB (ls : Str) : List V → Bool
  | [x] => oneL ls x
  | _ => false
def numsB (at_ : Nat) (rest : List V) : Option Nat → Bool
  | some k => decide (rest.length = k) && rest.all (numB at_)
  | none => false
def okRow (ls : Str) (at_ : Nat) : List V → Bool
  | .str w :: rest => if w = "letter" then letB ls rest else numsB at_ rest (sizeW w)
  | _ => false
theorem okRow_let (ls : Str) (n : Nat) (rest : List V) : okRow ls n (.str "letter" :: rest) = letB ls rest := rfl
theorem okRow_not {ls : Str} {n : Nat} {w : Str} {rest : List V} (h : ¬ w = "letter") : okRow ls n (.str w :: rest) = numsB n rest (sizeW w) := if_neg h
/-- a thing in the place of a row: a tuple, or no tuple -/
inductive El where
  | row (xs : List V)
  | no
def okEl (ls : Str) (at_ : Nat) : El → Bool
  | .row xs => okRow ls at_ xs
  | .no => false
/-- a thing in the place of a formula -/
inductive Th where
  | tup (es : List El)
  | no
/-- whether the k-th may stand -/
def rowB (ls : Str) (es : List El) (k : Nat) : Bool := match es[k]? with | some e => okEl ls k e | none => true
def okEls (ls : Str) (es : List El) : Bool := (List.range es.length).all (rowB ls es)
def okTh (ls : Str) : Th → Bool
  | .tup es => decide (1 ≤ es.length ∧ es.length ≤ 6000) && okEls ls es
  | .no => false
def Flat : V → Prop
  | .int _ => True
  | .str _ => True
  | .bl _ => True
  | .non => True
  | _ => False
def wordsL : List Str := ["true", "letter", "not", "and", "or", "later", "earlier", "until", "next", "before", "since", "past"]
/-- what a row may hold here: numbers, texts, truths, None; its word one of some -/
def ElIn : El → Prop
  | .row xs => (∀ x ∈ xs, Flat x) ∧ xs.length ≤ 5000 ∧ True ∧ ∀ z, V.str z ∈ xs → z.length ≤ 1000 ∧ PyData.strOk z = true
  | .no => True
theorem okRow_vs {ls : Str} {n : Nat} {r : Ro} (h : r.ok ls n) : okRow ls n r.vs = true := by
  have nb : ∀ i, i < n → numB n (nV i) = true := fun i hi => by
    show decide _ = true
    exact decide_eq_true (by omega)
  cases r with
  | tru => rfl
  | let_ c =>
    have := h.2 c rfl
    show oneL ls (.str (sg c)) = true
    have e : oneL ls (.str (sg c)) = (true && (decide (c ∈ ls.cps.toList) && true)) := rfl
    rw [e, decide_eq_true this]
    rfl
  | nt i =>
    show (decide (1 = 1) && (numB n (nV i) && true)) = true
    rw [nb i (h.1 i List.mem_cons_self)]
    rfl
  | an i j =>
    show (decide (2 = 2) && (numB n (nV i) && (numB n (nV j) && true))) = true
    rw [nb i (h.1 i List.mem_cons_self), nb j (h.1 j (List.mem_cons_of_mem _ List.mem_cons_self))]
    rfl
  | or_ i j =>
    show (decide (2 = 2) && (numB n (nV i) && (numB n (nV j) && true))) = true
    rw [nb i (h.1 i List.mem_cons_self), nb j (h.1 j (List.mem_cons_of_mem _ List.mem_cons_self))]
    rfl
  | la i =>
    show (decide (1 = 1) && (numB n (nV i) && true)) = true
    rw [nb i (h.1 i List.mem_cons_self)]
    rfl
  | ea i =>
    show (decide (1 = 1) && (numB n (nV i) && true)) = true
    rw [nb i (h.1 i List.mem_cons_self)]
    rfl
def rowsEl (F : List Ro) : List El := F.map fun r => .row r.vs
theorem okTh_rows {ls : Str} {F : List Ro} (ok : FOk ls F) (h1 : 1 ≤ F.length) (h2 : F.length ≤ 6000) : okTh ls (.tup (rowsEl F)) = true := by
  have hl : (rowsEl F).length = F.length := List.length_map ..
  show (decide _ && okEls ls (rowsEl F)) = true
  rw [decide_eq_true (by rw [hl]; exact ⟨h1, h2⟩), Bool.true_and]
  unfold okEls
  rw [List.all_eq_true]
  intro k hk
  have hk' : k < F.length := by
    have := List.mem_range.mp hk
    omega
  have e2 : (rowsEl F)[k]? = some (.row (F[k]'hk').vs) := by
    unfold rowsEl
    rw [List.getElem?_map, List.getElem?_eq_getElem hk']
    rfl
  unfold rowB
  rw [e2]
  exact okRow_vs (ok k _ (List.getElem?_eq_getElem hk'))
theorem elIn_row {ls : Str} {n : Nat} {r : Ro} (hs : ∀ c ∈ ls.cps.toList, c < 0x110000) (ok : r.ok ls n) : ElIn (.row r.vs) := by
  have h1 : ∀ z : Str, z ∈ wordsL → z.length ≤ 1000 ∧ PyData.strOk z = true := by decide +kernel
  have hc : ∀ c, r = .let_ c → (sg c).length ≤ 1000 ∧ PyData.strOk (sg c) = true := fun c e => by
    refine ⟨by show 1 ≤ 1000; decide, ?_⟩
    have := hs c (ok.2 c e)
    unfold PyData.strOk sg
    simp [this]
  cases r with
  | let_ c =>
    refine ⟨by simp [Ro.vs, Flat], by simp [Ro.vs], by simp [Ro.vs, wordsL], fun z hz => ?_⟩
    simp only [Ro.vs, List.mem_cons, List.not_mem_nil, or_false, V.str.injEq] at hz
    rcases hz with rfl | rfl
    · exact h1 _ (by decide +kernel)
    · exact hc c rfl
  | tru =>
    refine ⟨by simp [Ro.vs, Flat], by simp [Ro.vs], by simp [Ro.vs, wordsL], fun z hz => ?_⟩
    simp only [Ro.vs, List.mem_cons, List.not_mem_nil, or_false, V.str.injEq] at hz
    exact h1 _ (by rw [hz]; decide +kernel)
  | nt i =>
    refine ⟨by simp [Ro.vs, Flat, nV], by simp [Ro.vs], by simp [Ro.vs, wordsL], fun z hz => ?_⟩
    simp only [Ro.vs, nV, List.mem_cons, List.not_mem_nil, or_false, V.str.injEq, reduceCtorEq] at hz
    exact h1 _ (by rw [hz]; decide +kernel)
  | an i j =>
    refine ⟨by simp [Ro.vs, Flat, nV], by simp [Ro.vs], by simp [Ro.vs, wordsL], fun z hz => ?_⟩
    simp only [Ro.vs, nV, List.mem_cons, List.not_mem_nil, or_false, V.str.injEq, reduceCtorEq] at hz
    exact h1 _ (by rw [hz]; decide +kernel)
  | or_ i j =>
    refine ⟨by simp [Ro.vs, Flat, nV], by simp [Ro.vs], by simp [Ro.vs, wordsL], fun z hz => ?_⟩
    simp only [Ro.vs, nV, List.mem_cons, List.not_mem_nil, or_false, V.str.injEq, reduceCtorEq] at hz
    exact h1 _ (by rw [hz]; decide +kernel)
  | la i =>
    refine ⟨by simp [Ro.vs, Flat, nV], by simp [Ro.vs], by simp [Ro.vs, wordsL], fun z hz => ?_⟩
    simp only [Ro.vs, nV, List.mem_cons, List.not_mem_nil, or_false, V.str.injEq, reduceCtorEq] at hz
    exact h1 _ (by rw [hz]; decide +kernel)
  | ea i =>
    refine ⟨by simp [Ro.vs, Flat, nV], by simp [Ro.vs], by simp [Ro.vs, wordsL], fun z hz => ?_⟩
    simp only [Ro.vs, nV, List.mem_cons, List.not_mem_nil, or_false, V.str.injEq, reduceCtorEq] at hz
    exact h1 _ (by rw [hz]; decide +kernel)
end SWL
set_option Elab.async false
set_option linter.all false
set_option maxRecDepth 100000
set_option maxHeartbeats 4000000
namespace SWL
open PySem PySem.Spec PyProof.Rows L2 LamX
/-! formulas with all words of the future and the past, as mathematics -/
inductive Rf where
  | tru
  | let_ (c : Nat)
  | nt (i : Nat)
  | an (i j : Nat)
  | or_ (i j : Nat)
  | nx (i : Nat)
  | la (i : Nat)
  | un (i j : Nat)
  | be (i : Nat)
  | ea (i : Nat)
  | si (i j : Nat)
deriving DecidableEq
def Rf.vs : Rf → List V
  | .tru => [.str "true"]
  | .let_ c => [.str "letter", .str (sg c)]
  | .nt i => [.str "not", nV i]
  | .an i j => [.str "and", nV i, nV j]
  | .or_ i j => [.str "or", nV i, nV j]
  | .la i => [.str "later", nV i]
  | .ea i => [.str "earlier", nV i]
  | .nx i => [.str "next", nV i]
  | .un i j => [.str "until", nV i, nV j]
  | .be i => [.str "before", nV i]
  | .si i j => [.str "since", nV i, nV j]
def Rf.refs : Rf → List Nat
  | .tru => []
  | .let_ _ => []
  | .nt i => [i]
  | .an i j => [i, j]
  | .or_ i j => [i, j]
  | .la i => [i]
  | .ea i => [i]
  | .nx i => [i]
  | .un i j => [i, j]
  | .be i => [i]
  | .si i j => [i, j]
def Rf.turned : Rf → Bool
  | .tru => false
  | .let_ _ => false
  | .nt _ => false
  | .an _ _ => false
  | .or_ _ _ => false
  | _ => true
def Rf.ok (ls : Str) (n : Nat) (r : Rf) : Prop := (∀ i ∈ r.refs, i < n) ∧ ∀ c, r = .let_ c → c ∈ ls.cps.toList
def FOkf (ls : Str) (F : List Rf) : Prop := ∀ (k : Nat) (r : Rf), F[k]? = some r → r.ok ls k
theorem FOkf.snoc {ls : Str} {F : List Rf} {r : Rf} (h : FOkf ls F) (hr : r.ok ls F.length) : FOkf ls (F ++ [r]) := fun k r' hk => by
  by_cases c : k < F.length
  · rw [List.getElem?_append_left c] at hk
    exact h k r' hk
  · rw [List.getElem?_append_right (by omega)] at hk
    have h0 : k - F.length = 0 := by
      have := (List.getElem?_eq_some_iff.mp hk).1
      simp only [List.length_singleton] at this
      omega
    rw [h0] at hk
    rw [← Option.some.inj hk, show k = F.length by omega]
    exact hr
def dep1f (ds : List Nat) (r : Rf) : Nat := mx (r.refs.map fun i => ds.getD i 0) + if r.turned = true then 1 else 0
def depsf (F : List Rf) : List Nat := F.foldl (fun ds r => ds ++ [dep1f ds r]) []
theorem deps_snocf (F : List Rf) (r : Rf) : depsf (F ++ [r]) = depsf F ++ [dep1f (depsf F) r] := by
  unfold depsf
  rw [List.foldl_append]
  rfl
theorem deps_lenf (F : List Rf) : (depsf F).length = F.length := by
  unfold depsf
  rw [foldl_len]
  simp
theorem deps_appf (A B : List Rf) {k : Nat} (hk : k < A.length) : (depsf (A ++ B))[k]? = (depsf A)[k]? := by
  unfold depsf
  rw [List.foldl_append]
  exact foldl_pre dep1f B (A.foldl _ []) k (by have := deps_lenf A; unfold depsf at this; omega)
theorem dep1_congrf {ds es : List Nat} {r : Rf} {n : Nat} (h : ∀ i ∈ r.refs, i < n) (e : ∀ i < n, ds[i]? = es[i]?) : dep1f ds r = dep1f es r := by
  unfold dep1f
  have : (r.refs.map fun i => ds.getD i 0) = r.refs.map fun i => es.getD i 0 := List.map_congr_left fun i hi => by
    rw [List.getD_eq_getElem?_getD, List.getD_eq_getElem?_getD, e i (h i hi)]
  rw [this]
theorem deps_getf {ls : Str} {F : List Rf} (ok : FOkf ls F) {k : Nat} {r : Rf} (h : F[k]? = some r) : (depsf F)[k]? = some (dep1f (depsf F) r) := by
  have hk := (List.getElem?_eq_some_iff.mp h).1
  have sp := take_split h
  have hl : (F.take k).length = k := by rw [List.length_take]; omega
  have e1 : (depsf F)[k]? = (depsf (F.take k ++ [r]))[k]? := by
    conv => lhs; rw [sp, ← List.append_assoc]
    exact deps_appf _ _ (by rw [List.length_append, hl]; simp)
  rw [e1, deps_snocf, List.getElem?_append_right (by rw [deps_lenf, hl]; omega), deps_lenf, hl, Nat.sub_self]
  show some _ = some _
  congr 1
  refine dep1_congrf (ok k r h).1 fun i hi => ?_
  conv => rhs; rw [sp]
  exact (deps_appf _ _ (by rw [hl]; exact hi)).symm
/-- whether it is so at some place, and what is to hold holds until there -/
def untilB (h d : Nat → Bool) : List Nat → Bool
  | [] => false
  | q :: l => d q || (h q && untilB h d l)
/-- the places ahead of all that are behind p, up to n -/
def ups (n p : Nat) : List Nat := (List.range n).drop (p + 1)
/-- the places of letters in front of p, from the last on -/
def downs (p : Nat) : List Nat := ((List.range p).drop 1).reverse
theorem ups_step {n p : Nat} (h : p + 1 < n) : ups n p = (p + 1) :: ups n (p + 1) := by
  unfold ups
  rw [List.drop_eq_getElem_cons (by rw [List.length_range]; exact h), List.getElem_range]
theorem ups_end {n p : Nat} (h : n ≤ p + 1) : ups n p = [] := by
  unfold ups
  exact List.drop_eq_nil_of_le (by rw [List.length_range]; exact h)
theorem downs_end {p : Nat} (h : p ≤ 1) : downs p = [] := by
  unfold downs
  rw [List.drop_eq_nil_of_le (by rw [List.length_range]; exact h)]
  rfl
theorem downs_step {p : Nat} (h : 1 ≤ p) : downs (p + 1) = p :: downs p := by
  unfold downs
  rw [List.range_succ, List.drop_append_of_le_length (by rw [List.length_range]; exact h), List.reverse_append]
  rfl
def holdT (tab : List (List Bool)) : Rf → Nat → Bool
  | .un i _ => cellB tab i
  | .si i _ => cellB tab i
  | _ => fun _ => true
def dueT (tab : List (List Bool)) : Rf → Nat → Bool
  | .la i => cellB tab i
  | .ea i => cellB tab i
  | .un _ j => cellB tab j
  | .si _ j => cellB tab j
  | _ => fun _ => false
def rowAtf (tab : List (List Bool)) (w : Wl) (p : Nat) (r : Rf) : Bool := match r with
  | .tru => true
  | .let_ c => decide (0 < p) && decide (w[p - 1]? = some c)
  | .nt i => !cellB tab i p
  | .an i j => cellB tab i p && cellB tab j p
  | .or_ i j => cellB tab i p || cellB tab j p
  | .nx i => decide (p < w.length) && cellB tab i (p + 1)
  | .be i => decide (2 ≤ p) && cellB tab i (p - 1)
  | .la i => untilB (holdT tab r) (dueT tab r) (ups (w.length + 1) p)
  | .un _ _ => untilB (holdT tab r) (dueT tab r) (ups (w.length + 1) p)
  | .ea i => untilB (holdT tab r) (dueT tab r) (downs p)
  | .si _ _ => untilB (holdT tab r) (dueT tab r) (downs p)
def rowLinef (w : Wl) (tab : List (List Bool)) (r : Rf) : List Bool := (List.range (w.length + 1)).map fun p => rowAtf tab w p r
def tableFf (w : Wl) (F : List Rf) : List (List Bool) := F.foldl (fun tab r => tab ++ [rowLinef w tab r]) []
def saysBf (F : List Rf) (w : Wl) : Bool := cellB (tableFf w F) (F.length - 1) 0
theorem table_snocf (w : Wl) (F : List Rf) (r : Rf) : tableFf w (F ++ [r]) = tableFf w F ++ [rowLinef w (tableFf w F) r] := by
  unfold tableFf
  rw [List.foldl_append]
  rfl
theorem table_lenf (w : Wl) (F : List Rf) : (tableFf w F).length = F.length := by
  unfold tableFf
  rw [foldl_len]
  simp
theorem line_lenf (w : Wl) (tab : List (List Bool)) (r : Rf) : (rowLinef w tab r).length = w.length + 1 := by
  unfold rowLinef
  rw [List.length_map, List.length_range]
theorem table_linesf {w : Wl} : ∀ (F : List Rf), ∀ l ∈ tableFf w F, l.length = w.length + 1 := by
  intro F
  unfold tableFf
  have gen : ∀ (F : List Rf) (a : List (List Bool)), (∀ l ∈ a, l.length = w.length + 1) → ∀ l ∈ F.foldl (fun tab r => tab ++ [rowLinef w tab r]) a, l.length = w.length + 1 := by
    intro F
    induction F with
    | nil => intro a h; exact h
    | cons r F ih =>
      intro a h
      refine ih (a ++ [rowLinef w a r]) fun l hl => ?_
      rcases List.mem_append.mp hl with hl | hl
      · exact h l hl
      · rw [List.mem_singleton.mp hl]
        exact line_lenf _ _ _
  exact gen F [] fun l hl => by cases hl
def sizeWf (w : Str) : Option Nat := if w = "true" then some 0 else if w = "not" then some 1 else if w = "and" then some 2 else if w = "or" then some 2 else if w = "next" then some 1 else if w = "later" then some 1 else if w = "until" then some 2 else if w = "before" then some 1 else if w = "earlier" then some 1 else if w = "since" then some 2 else none
def okRowf (ls : Str) (at_ : Nat) : List V → Bool
  | .str w :: rest => if w = "letter" then letB ls rest else numsB at_ rest (sizeWf w)
  | _ => false
theorem okRow_letf (ls : Str) (n : Nat) (rest : List V) : okRowf ls n (.str "letter" :: rest) = letB ls rest := rfl
theorem okRow_notf {ls : Str} {n : Nat} {w : Str} {rest : List V} (h : ¬ w = "letter") : okRowf ls n (.str w :: rest) = numsB n rest (sizeWf w) := if_neg h
def okElf (ls : Str) (at_ : Nat) : El → Bool
  | .row xs => okRowf ls at_ xs
  | .no => false
def rowBf (ls : Str) (es : List El) (k : Nat) : Bool := match es[k]? with | some e => okElf ls k e | none => true
def okElsf (ls : Str) (es : List El) : Bool := (List.range es.length).all (rowBf ls es)
def okThf (ls : Str) : Th → Bool
  | .tup es => decide (1 ≤ es.length ∧ es.length ≤ 6000) && okElsf ls es
  | .no => false
theorem okRow_vsf {ls : Str} {n : Nat} {r : Rf} (h : r.ok ls n) : okRowf ls n r.vs = true := by
  have nb : ∀ i, i < n → numB n (nV i) = true := fun i hi => by
    show decide _ = true
    exact decide_eq_true (by omega)
  cases r with
  | tru => rfl
  | let_ c =>
    have := h.2 c rfl
    show oneL ls (.str (sg c)) = true
    have e : oneL ls (.str (sg c)) = (true && (decide (c ∈ ls.cps.toList) && true)) := rfl
    rw [e, decide_eq_true this]
    rfl
  | nt i =>
    show (decide (1 = 1) && (numB n (nV i) && true)) = true
    rw [nb i (h.1 i List.mem_cons_self)]
    rfl
  | an i j =>
    show (decide (2 = 2) && (numB n (nV i) && (numB n (nV j) && true))) = true
    rw [nb i (h.1 i List.mem_cons_self), nb j (h.1 j (List.mem_cons_of_mem _ List.mem_cons_self))]
    rfl
  | or_ i j =>
    show (decide (2 = 2) && (numB n (nV i) && (numB n (nV j) && true))) = true
    rw [nb i (h.1 i List.mem_cons_self), nb j (h.1 j (List.mem_cons_of_mem _ List.mem_cons_self))]
    rfl
  | la i =>
    show (decide (1 = 1) && (numB n (nV i) && true)) = true
    rw [nb i (h.1 i List.mem_cons_self)]
    rfl
  | ea i =>
    show (decide (1 = 1) && (numB n (nV i) && true)) = true
    rw [nb i (h.1 i List.mem_cons_self)]
    rfl
  | nx i =>
    show (decide (1 = 1) && (numB n (nV i) && true)) = true
    rw [nb i (h.1 i List.mem_cons_self)]
    rfl
  | be i =>
    show (decide (1 = 1) && (numB n (nV i) && true)) = true
    rw [nb i (h.1 i List.mem_cons_self)]
    rfl
  | un i j =>
    show (decide (2 = 2) && (numB n (nV i) && (numB n (nV j) && true))) = true
    rw [nb i (h.1 i List.mem_cons_self), nb j (h.1 j (List.mem_cons_of_mem _ List.mem_cons_self))]
    rfl
  | si i j =>
    show (decide (2 = 2) && (numB n (nV i) && (numB n (nV j) && true))) = true
    rw [nb i (h.1 i List.mem_cons_self), nb j (h.1 j (List.mem_cons_of_mem _ List.mem_cons_self))]
    rfl
def rowsElf (F : List Rf) : List El := F.map fun r => .row r.vs
theorem okTh_rowsf {ls : Str} {F : List Rf} (ok : FOkf ls F) (h1 : 1 ≤ F.length) (h2 : F.length ≤ 6000) : okThf ls (.tup (rowsElf F)) = true := by
  have hl : (rowsElf F).length = F.length := List.length_map ..
  show (decide _ && okElsf ls (rowsElf F)) = true
  rw [decide_eq_true (by rw [hl]; exact ⟨h1, h2⟩), Bool.true_and]
  unfold okElsf
  rw [List.all_eq_true]
  intro k hk
  have hk' : k < F.length := by
    have := List.mem_range.mp hk
    omega
  have e2 : (rowsElf F)[k]? = some (.row (F[k]'hk').vs) := by
    unfold rowsElf
    rw [List.getElem?_map, List.getElem?_eq_getElem hk']
    rfl
  unfold rowBf
  rw [e2]
  exact okRow_vsf (ok k _ (List.getElem?_eq_getElem hk'))
theorem elIn_rowf {ls : Str} {n : Nat} {r : Rf} (hs : ∀ c ∈ ls.cps.toList, c < 0x110000) (ok : r.ok ls n) : ElIn (.row r.vs) := by
  have h1 : ∀ z : Str, z ∈ wordsL → z.length ≤ 1000 ∧ PyData.strOk z = true := by decide +kernel
  have hc : ∀ c, r = .let_ c → (sg c).length ≤ 1000 ∧ PyData.strOk (sg c) = true := fun c e => by
    refine ⟨by show 1 ≤ 1000; decide, ?_⟩
    have := hs c (ok.2 c e)
    unfold PyData.strOk sg
    simp [this]
  cases r with
  | let_ c =>
    refine ⟨by simp [Rf.vs, Flat], by simp [Rf.vs], by simp [Rf.vs, wordsL], fun z hz => ?_⟩
    simp only [Rf.vs, List.mem_cons, List.not_mem_nil, or_false, V.str.injEq] at hz
    rcases hz with rfl | rfl
    · exact h1 _ (by decide +kernel)
    · exact hc c rfl
  | tru =>
    refine ⟨by simp [Rf.vs, Flat], by simp [Rf.vs], by simp [Rf.vs, wordsL], fun z hz => ?_⟩
    simp only [Rf.vs, List.mem_cons, List.not_mem_nil, or_false, V.str.injEq] at hz
    exact h1 _ (by rw [hz]; decide +kernel)
  | nt i =>
    refine ⟨by simp [Rf.vs, Flat, nV], by simp [Rf.vs], by simp [Rf.vs, wordsL], fun z hz => ?_⟩
    simp only [Rf.vs, nV, List.mem_cons, List.not_mem_nil, or_false, V.str.injEq, reduceCtorEq] at hz
    exact h1 _ (by rw [hz]; decide +kernel)
  | an i j =>
    refine ⟨by simp [Rf.vs, Flat, nV], by simp [Rf.vs], by simp [Rf.vs, wordsL], fun z hz => ?_⟩
    simp only [Rf.vs, nV, List.mem_cons, List.not_mem_nil, or_false, V.str.injEq, reduceCtorEq] at hz
    exact h1 _ (by rw [hz]; decide +kernel)
  | or_ i j =>
    refine ⟨by simp [Rf.vs, Flat, nV], by simp [Rf.vs], by simp [Rf.vs, wordsL], fun z hz => ?_⟩
    simp only [Rf.vs, nV, List.mem_cons, List.not_mem_nil, or_false, V.str.injEq, reduceCtorEq] at hz
    exact h1 _ (by rw [hz]; decide +kernel)
  | la i =>
    refine ⟨by simp [Rf.vs, Flat, nV], by simp [Rf.vs], by simp [Rf.vs, wordsL], fun z hz => ?_⟩
    simp only [Rf.vs, nV, List.mem_cons, List.not_mem_nil, or_false, V.str.injEq, reduceCtorEq] at hz
    exact h1 _ (by rw [hz]; decide +kernel)
  | ea i =>
    refine ⟨by simp [Rf.vs, Flat, nV], by simp [Rf.vs], by simp [Rf.vs, wordsL], fun z hz => ?_⟩
    simp only [Rf.vs, nV, List.mem_cons, List.not_mem_nil, or_false, V.str.injEq, reduceCtorEq] at hz
    exact h1 _ (by rw [hz]; decide +kernel)
  | nx i =>
    refine ⟨by simp [Rf.vs, Flat, nV], by simp [Rf.vs], by simp [Rf.vs, wordsL], fun z hz => ?_⟩
    simp only [Rf.vs, nV, List.mem_cons, List.not_mem_nil, or_false, V.str.injEq, reduceCtorEq] at hz
    exact h1 _ (by rw [hz]; decide +kernel)
  | be i =>
    refine ⟨by simp [Rf.vs, Flat, nV], by simp [Rf.vs], by simp [Rf.vs, wordsL], fun z hz => ?_⟩
    simp only [Rf.vs, nV, List.mem_cons, List.not_mem_nil, or_false, V.str.injEq, reduceCtorEq] at hz
    exact h1 _ (by rw [hz]; decide +kernel)
  | un i j =>
    refine ⟨by simp [Rf.vs, Flat, nV], by simp [Rf.vs], by simp [Rf.vs, wordsL], fun z hz => ?_⟩
    simp only [Rf.vs, nV, List.mem_cons, List.not_mem_nil, or_false, V.str.injEq, reduceCtorEq] at hz
    exact h1 _ (by rw [hz]; decide +kernel)
  | si i j =>
    refine ⟨by simp [Rf.vs, Flat, nV], by simp [Rf.vs], by simp [Rf.vs, wordsL], fun z hz => ?_⟩
    simp only [Rf.vs, nV, List.mem_cons, List.not_mem_nil, or_false, V.str.injEq, reduceCtorEq] at hz
    exact h1 _ (by rw [hz]; decide +kernel)
/-! timely formulas are formulas -/
def emb : Ro → Rf
  | .tru => .tru
  | .let_ c => .let_ c
  | .nt i => .nt i
  | .an i j => .an i j
  | .or_ i j => .or_ i j
  | .la i => .la i
  | .ea i => .ea i
theorem emb_vs (r : Ro) : (emb r).vs = r.vs := by cases r <;> rfl
theorem emb_refs (r : Ro) : (emb r).refs = r.refs := by cases r <;> rfl
theorem emb_ok {ls : Str} {F : List Ro} (h : FOk ls F) : FOkf ls (F.map emb) := fun k r hk => by
  rw [List.getElem?_map] at hk
  cases e : F[k]? with
  | none => rw [e] at hk; cases hk
  | some q =>
    rw [e] at hk
    obtain rfl := Option.some.inj hk
    refine ⟨fun i hi => (h k q e).1 i (by rwa [emb_refs] at hi), fun c hc => (h k q e).2 c ?_⟩
    cases q with
    | let_ d => cases hc; rfl
    | _ => cases hc
theorem untilB_any (d : Nat → Bool) : ∀ l : List Nat, untilB (fun _ => true) d l = l.any d
  | [] => rfl
  | q :: l => by
    show (d q || (true && untilB (fun _ => true) d l)) = (d q || l.any d)
    rw [untilB_any d l, Bool.true_and]
theorem any_at (bs : List Bool) : bs.any id = (List.range bs.length).any (fun q => bs.getD q false) := by
  induction bs with
  | nil => rfl
  | cons b bs ih =>
    rw [List.length_cons, List.range_succ_eq_map, List.any_cons, List.any_cons, List.any_map, ih]
    rfl
theorem any_range_drop (l : List Bool) (a : Nat) : (l.drop a).any id = ((List.range l.length).drop a).any (fun q => l.getD q false) := by
  have e : l = (List.range l.length).map fun q => l.getD q false := by
    refine List.ext_getElem? fun k => ?_
    rw [List.getElem?_map]
    by_cases h : k < l.length
    · rw [List.getElem?_eq_getElem h, List.getElem?_eq_getElem (by rw [List.length_range]; exact h), List.getElem_range, Option.map_some, List.getD_eq_getElem?_getD, List.getElem?_eq_getElem h]
      rfl
    · rw [List.getElem?_eq_none (by omega), List.getElem?_eq_none (by rw [List.length_range]; omega)]
      rfl
  conv => lhs; rw [e]
  rw [← List.map_drop, List.any_map]
  rfl
theorem any_take_drop (l : List Bool) {a p : Nat} (hp : p ≤ l.length) : ((l.take p).drop a).any id = ((List.range p).drop a).any (fun q => l.getD q false) := by
  rw [any_range_drop, List.length_take, Nat.min_eq_left hp]
  refine Bool.eq_iff_iff.mpr ?_
  rw [List.any_eq_true, List.any_eq_true]
  have hq : ∀ q ∈ (List.range p).drop a, (l.take p).getD q false = l.getD q false := fun q h => by
    have := List.mem_range.mp (List.mem_of_mem_drop h)
    rw [List.getD_eq_getElem?_getD, List.getD_eq_getElem?_getD, List.getElem?_take, if_pos this]
  exact ⟨fun ⟨q, h, e⟩ => ⟨q, h, by rwa [hq q h] at e⟩, fun ⟨q, h, e⟩ => ⟨q, h, by rwa [hq q h]⟩⟩
theorem rowAt_emb {tab : List (List Bool)} {w : Wl} {p : Nat} {r : Ro} (hr : ∀ i ∈ r.refs, (tab.getD i []).length = w.length + 1) (hp : p ≤ w.length) : rowAtf tab w p (emb r) = rowAt tab w p r := by
  cases r with
  | la i =>
    show untilB (fun _ => true) (cellB tab i) (ups (w.length + 1) p) = ((tab.getD i []).drop (p + 1)).any id
    rw [untilB_any, any_range_drop, hr i List.mem_cons_self]
    rfl
  | ea i =>
    show untilB (fun _ => true) (cellB tab i) (downs p) = (((tab.getD i []).take p).drop 1).any id
    rw [untilB_any, any_take_drop _ (by rw [hr i List.mem_cons_self]; omega)]
    unfold downs
    rw [List.any_reverse]
    rfl
  | _ => rfl
theorem table_emb {ls : Str} {w : Wl} : ∀ {F : List Ro}, FOk ls F → tableFf w (F.map emb) = tableF w F := by
  intro F
  have gen : ∀ n, n ≤ F.length → FOk ls F → tableFf w ((F.take n).map emb) = tableF w (F.take n) := by
    intro n
    induction n with
    | zero => intro _ _; rfl
    | succ n ih =>
      intro hn ok
      have hn' : n < F.length := by omega
      have e : F[n]? = some F[n] := List.getElem?_eq_getElem hn'
      have tk : F.take (n + 1) = F.take n ++ [F[n]] := by rw [List.take_append_getElem hn']
      rw [tk, List.map_append, List.map_singleton, table_snocf, table_snoc, ih (by omega) ok]
      congr 2
      unfold rowLinef rowLine
      refine List.map_congr_left fun p hp => rowAt_emb (fun i hi => ?_) (by have := List.mem_range.mp hp; omega)
      have hi2 := (ok n _ e).1 i hi
      have tl := table_len w (F.take n)
      rw [List.length_take, Nat.min_eq_left (by omega)] at tl
      rw [List.getD_eq_getElem?_getD, List.getElem?_eq_getElem (by omega)]
      exact table_lines _ _ (List.getElem_mem _)
  intro ok
  have := gen F.length (Nat.le_refl _) ok
  rwa [List.take_length] at this
theorem says_emb {ls : Str} {w : Wl} {F : List Ro} (ok : FOk ls F) : saysBf (F.map emb) w = saysB F w := by
  unfold saysBf saysB
  rw [table_emb ok, List.length_map]
/-! when a formula is a timely one -/
def timelyR : Rf → Bool
  | .nx _ => false
  | .un _ _ => false
  | .be _ => false
  | .si _ _ => false
  | _ => true
end SWL
set_option Elab.async false
set_option linter.all false
set_option maxRecDepth 100000
set_option maxHeartbeats 4000000
namespace SWL
open PySem PySem.Spec PyProof.Rows L2 LamX
def topS (i : Nat) : Stmt := PySem.Challenge.pw_swinglogic_k83_whole_formulas_as_texts.main.body.getD i (.Pass ⟨0, 0, 0, 0⟩)
abbrev sIsNum : Stmt := topS 13
abbrev sIsL : Stmt := topS 14
abbrev sNeedL : Stmt := topS 15
abbrev sFRow : Stmt := topS 19
abbrev sIsF : Stmt := topS 20
abbrev sNeedF : Stmt := topS 21
abbrev sRowText : Stmt := topS 24
abbrev sFText : Stmt := topS 25
abbrev sIsFig : Stmt := topS 26
abbrev sRowRead : Stmt := topS 27
abbrev sReadF : Stmt := topS 28
abbrev sBegun : Stmt := topS 30
abbrev sMixed : Stmt := topS 31
abbrev sDraw : Stmt := topS 32
abbrev sPick : Stmt := topS 33
abbrev sPlain : Stmt := topS 34
abbrev sIs : Stmt := topS 35
abbrev sWord : Stmt := topS 36
abbrev sSomeL : Stmt := topS 37
abbrev sSomeFull : Stmt := topS 38
abbrev sTextOf : Stmt := topS 39
abbrev sLawRead : Stmt := topS 40
abbrev sRefused : Stmt := topS 41
abbrev sLaw : Stmt := topS 42
/-- the module's names: what is built in, and the constants -/
structure Blt (mg : Str → Option Value) : Prop where
  isi : mg "isinstance" = none
  str : mg "str" = none
  int : mg "int" = none
  list : mg "list" = none
  tuple : mg "tuple" = none
  dict : mg "dict" = none
  len : mg "len" = none
  all : mg "all" = none
  any : mg "any" = none
  zip : mg "zip" = none
  sorted : mg "sorted" = none
  abs : mg "abs" = none
  range : mg "range" = none
  min : mg "min" = none
  repr : mg "repr" = none
  bool : mg "bool" = none
  enum : mg "enumerate" = none
  max : mg "max" = none
  small : ∃ t, mg "SMALL" = some (.str "abcdefghijklmnopqrstuvwxyz" t)
  mostL : ∃ t, mg "MOST_LETTERS" = some (.int 4 t)
  rowsF : ∃ t, mg "MOST_ROWS" = some (.int 6000 t)
  figs : ∃ t, mg "FIGURES" = some (.str "0123456789" t)
def NotStr (K : PySem.W.Frag) (H : Hp) (x : V) : Prop := ∃ t : String, TyX K H x (.type t) ∧ kitB t "str" = some false
def smallS : Str := "abcdefghijklmnopqrstuvwxyz"
def sign0 : V → Nat
  | .str z => z.cps.toList.headD 0
  | _ => 0
def inSm (v : V) : V := .bl (decide (sign0 v ∈ smallS.cps.toList))
theorem lt_one (c d : Nat) : decide (([c] : List Nat) < [d]) = decide (c < d) := by
  refine decide_eq_decide.mpr ?_
  constructor
  · intro h
    cases h with
    | rel h => exact h
    | cons h => cases h
  · intro h
    exact .rel h
def rises : List Nat → Bool
  | a :: b :: r => decide (a < b) && rises (b :: r)
  | _ => true
theorem rises_zip : ∀ l : List Nat, ((l.zip (l.drop 1)).map fun p => decide (p.1 < p.2)).all id = rises l
  | [] => rfl
  | [a] => rfl
  | a :: b :: r => by
    have ih := rises_zip (b :: r)
    show (decide (a < b) && (((b :: r).zip ((b :: r).drop 1)).map fun p => decide (p.1 < p.2)).all id) = (decide (a < b) && rises (b :: r))
    rw [ih]
theorem cut_len (z : Str) : z.cps.toList.length = z.length := Array.length_toList
theorem cut1 (z : Str) : (cutS z (some 1) none).cps.toList = z.cps.toList.drop 1 := by
  have h1 : HT.sIx z.length 0 (some 1) = min 1 z.length := HT.sIx_nat _ _ 1
  have h2 : HT.sIx z.length z.length none = z.length := rfl
  unfold cutS
  rw [h1, h2]
  show (z.cps.toList.drop (min 1 z.length)).take (z.length - min 1 z.length) = _
  have e : z.cps.toList.drop (min 1 z.length) = z.cps.toList.drop 1 := by
    by_cases h : 1 ≤ z.length
    · rw [Nat.min_eq_left h]
    · have : z.length = 0 := by omega
      have hz : z.cps.toList = [] := List.length_eq_zero_iff.mp (by rw [cut_len]; exact this)
      rw [hz]
      simp
  rw [e]
  refine List.take_of_length_le ?_
  rw [List.length_drop, cut_len]
  omega
def okLetters (z : Str) : Bool := decide (1 ≤ z.length ∧ z.length ≤ 4) && (z.cps.toList.all (fun c => decide (c ∈ smallS.cps.toList)) && rises z.cps.toList)
def spIsL (K : PySem.W.Frag) : Sp := fun vs H Q _ => ∃ x, vs = [x] ∧ ((∃ z, x = .str z ∧ z.length ≤ sizeLine ∧ ∀ H', Grows H H' → Q (.bl (okLetters z)) H') ∨ (NotStr K H x ∧ Q (.bl false) H))
theorem if_neg_of {c : Prop} [Decidable c] {A B : Prop} (hc : ¬ c) (h : B) : if c then A else B := by
  rw [if_neg hc]
  exact h
theorem if_pos_of {c : Prop} [Decidable c] {A B : Prop} (hc : c) (h : A) : if c then A else B := by
  rw [if_pos hc]
  exact h
section
variable {P : Program} {w : World} {K : PySem.W.Frag} {mg : Str → Option Value} {base : Heap}
theorem scIsL : FnScope ["thing", "sign", "one", "other"] ["thing"] (defScope sIsL) := ⟨rfl, rfl, rfl, by decide +kernel, rfl, by decide +kernel, by decide +kernel⟩
theorem ok_isL {f : Addr} {fd : FuncData} (F : L2.Fun K "is_letters" "is_letters" sIsL f fd) (B : Blt mg) : FnOk P w K mg base CX0 2 f fd ["thing"] (spIsL K) := by
  refine F.ok scIsL (fun vs H Q E h => ?_) (fun cdv A outer s H vs Q E hr h => ⟨_,
    pss_cons (ps_if (pw_or (pt_not (pt_truth (pe_callB call_isi (by rfl) B.isi (by decide +kernel) (pa_cons (pv 0) (pa_cons (pe_bltn (u := .type "str") (v := .ty "str") (by rfl) B.str (by decide +kernel) rfl) pa_nil))) (by intro _; rfl)))
      (pw_or1 (pt_not (pt_chain op_le op_le pe_int (pe_callB call_len_str (by rfl) B.len PySem.boot_len (pa_cons (pv 0) pa_nil)) (pe_glob (v := .int 4) (by rfl) B.mostL.choose_spec ⟨_, rfl⟩))))).pt (pss_one (ps_ret pe_bl)) pss_nil)
    (pss_one (ps_ret (pe_and
      (pe_callB (cr_all rfl) (by rfl) B.all (by decide +kernel) (pa_cons (pe_lc (own := [("sign", 1)]) (g := gName 1) (tt := tYes) rfl scIsL.nd (pi_str (pv 0)) (blkOk_by (N := ["thing", "sign", "one", "other"]) (sc := defScope sIsL) (by decide +kernel)) (fun _ _ _ _ _ => pg_name (i := 1) scIsL.nd rfl (Or.inl rfl)) (fun _ _ _ _ _ => pts_nil)
        (fun _ _ _ _ _ => pe_cmpR op_inS (pv 1) (pe_glob (v := .str smallS) (by rfl) B.small.choose_spec ⟨_, rfl⟩) rfl)) pa_nil))
      (pe_one (pe_callB (cr_all rfl) (by rfl) B.all (by decide +kernel) (pa_cons (pe_lc (own := [("one", 2), ("other", 3)]) (g := gTup K 2 (gCons (gName 2) (gCons (gName 3) gNil))) (tt := tYes) rfl scIsL.nd (pi_zipS (by rfl) B.zip (pa_cons (pv 0) (pa_cons (pe_slice sl_str (pv 0) (po_some pe_int) po_none) pa_nil))) (blkOk_by (N := ["thing", "sign", "one", "other"]) (sc := defScope sIsL) (by decide +kernel)) (fun _ _ _ _ _ => pg_tup rfl (pgs_cons (pg_name (i := 2) scIsL.nd rfl (Or.inl rfl)) (pgs_cons (pg_name (i := 3) scIsL.nd rfl (Or.inl rfl)) pgs_nil))) (fun _ _ _ _ _ => pts_nil)
        (fun _ _ _ _ _ => pe_cmpR op_lt_str (pv 2) (pv 3) rfl)) pa_nil)))))), ?_⟩)
  · obtain ⟨x, rfl, _⟩ := h
    rfl
  · obtain ⟨x, rfl, h⟩ := h
    rcases h with ⟨z, rfl, hz, q⟩ | ⟨⟨t, ty, hk⟩, q⟩
    · refine ⟨_, rfl, .str z, .ty "str", .type "str", .type "str", true, rfl, .ty "str", .base (.str z), kit_ty (by decide +kernel), true, rfl, ?_⟩
      refine if_neg_of (by decide) ?_
      refine ⟨_, rfl, z, rfl, hz, _, _, rfl, rfl, decide ((1 : Int) ≤ z.length), rfl, ?_⟩
      by_cases c1 : (1 : Int) ≤ z.length
      · refine if_pos_of (decide_eq_true c1) ⟨_, _, rfl, rfl, decide ((z.length : Int) ≤ 4), rfl, ?_⟩
        by_cases c2 : (z.length : Int) ≤ 4
        · refine if_neg_of (by rw [decide_eq_true c2]; decide) ?_
          refine ⟨_, rfl, z, rfl, fun D nD => comp (xs := signsV z) (walk_signs z) (fun _ => true) inSm nD (fun _ _ => trivial) (by rw [signs_len]; exact hz) (fun x H k _ g hk => hk H (Grows.refl H)) (fun x H Q hx _ g hq => ?_) (fun H2 g2 hD => ?_)⟩
          · obtain ⟨c, hc, rfl⟩ := signs_mem hx
            exact ⟨_, rfl, c, smallS, rfl, rfl, hq _ (Grows.refl _)⟩
          · rw [filter_yes] at hD
            refine ⟨D, z.cps.toList.map fun c => decide (c ∈ smallS.cps.toList), rfl, .inl (.inl (hD.trans ?_)), _, rfl, ?_⟩
            · unfold signsV
              rw [List.map_map, List.map_map]
              rfl
            · have e1 : (z.cps.toList.map fun c => decide (c ∈ smallS.cps.toList)).all id = z.cps.toList.all fun c => decide (c ∈ smallS.cps.toList) := by rw [List.all_map]; rfl
              rw [e1]
              have el : decide (1 ≤ z.length ∧ z.length ≤ 4) = true := decide_eq_true (by omega)
              cases e2 : z.cps.toList.all fun c => decide (c ∈ smallS.cps.toList) with
              | false =>
                refine if_neg_of (by decide) ?_
                have e3 : okLetters z = false := by unfold okLetters; rw [el, e2]; rfl
                rw [e3] at q
                exact q H2 g2
              | true =>
                refine if_pos_of rfl ?_
                refine ⟨_, rfl, _, rfl, 1, rfl, z, rfl, hz, z, _, rfl, fun D2 nD2 => compZ (fun p => V.bl (decide (p.1 < p.2))) nD2 (by decide) hz (fun c d H Q _ _ hq => ?_) fun H3 g3 hD3 => ?_⟩
                · refine ⟨_, rfl, _, rfl, _, _, rfl, rfl, ?_⟩
                  rw [show decide ((⟨#[c]⟩ : Str).cps.toList < (⟨#[d]⟩ : Str).cps.toList) = decide (c < d) from lt_one c d]
                  exact hq H (Grows.refl H)
                · rw [cut1] at hD3
                  refine ⟨D2, (z.cps.toList.zip (z.cps.toList.drop 1)).map fun p => decide (p.1 < p.2), rfl, .inl (.inl (hD3.trans ?_)), ?_⟩
                  · rw [List.map_map]
                    rfl
                  · rw [rises_zip]
                    have e3 : okLetters z = rises z.cps.toList := by unfold okLetters; rw [el, e2, Bool.true_and, Bool.true_and]
                    rw [e3] at q
                    exact q H3 (g2.trans g3)
        · refine if_pos_of (by rw [decide_eq_false c2]; decide) ?_
          have e : okLetters z = false := by
            unfold okLetters
            rw [decide_eq_false (by omega)]
            rfl
          rw [e] at q
          exact q H (Grows.refl H)
      · refine if_neg_of (by rw [decide_eq_false c1]; decide) ⟨false, rfl, if_pos_of (by decide) ?_⟩
        have e : okLetters z = false := by
          unfold okLetters
          rw [decide_eq_false (by omega)]
          rfl
        rw [e] at q
        exact q H (Grows.refl H)
    · refine ⟨_, rfl, x, .ty "str", .type t, .type "str", false, rfl, .ty "str", ty, kit_ty hk, false, rfl, ?_⟩
      exact q
end
end SWL
set_option Elab.async false
set_option linter.all false
set_option maxRecDepth 100000
set_option maxHeartbeats 4000000
namespace SWL
open PySem PySem.Spec PyProof.Rows L2 LamX
abbrev veB : List Value := [.type "ValueError", .type "Exception", .type "BaseException", .type "object"]
/-- an exception class of the text -/
structure ErrC (K : PySem.W.Frag) (mg : Str → Option Value) (x : Str) (C CS : Addr) : Prop where
  gC : mg x = some (.ref C)
  xC : PySem.W.excIn K C veB "ValueError.__new__" = true
  kC : PySem.W.keepIn K (.ref C) = true
  bC : PySem.W.subIn K (.ref C) (.type "BaseException") = some true
  tC : PySem.W.typeIn K (.ref C) = some (.type "type")
  eC : PySem.W.exmOne K (.ref C) (.ref CS) = some true
/-- a def of the text, by its name -/
structure Def (mg : Str → Option Value) (K : PySem.W.Frag) (x : Str) (f : Addr) (fd : FuncData) (ps : List Str) : Prop where
  g : mg x = some (.ref f)
  k : PySem.W.keepIn K (.ref f) = true
  b : L2.Binds K fd ps []
def spNeedL (K : PySem.W.Frag) (CN : Addr) : Sp := fun vs H Q E => ∃ x, vs = [x] ∧ ((∃ z, x = .str z ∧ z.length ≤ sizeLine ∧ ∀ H', Grows H H' → (okLetters z = true → Q .non H') ∧ (okLetters z = false → E (.ref CN) none H')) ∨ (NotStr K H x ∧ E (.ref CN) none H))
def okWord (ls z : Str) (m : Int) : Bool := decide ((z.length : Int) ≤ m) && z.cps.toList.all fun c => decide (c ∈ ls.cps.toList)
def inLs (ls : Str) (v : V) : V := .bl (decide (sign0 v ∈ ls.cps.toList))
def spIsW (K : PySem.W.Frag) : Sp := fun vs H Q _ => ∃ ls x m, vs = [.str ls, x, .int m] ∧ ((∃ z, x = .str z ∧ z.length ≤ sizeLine ∧ ∀ H', Grows H H' → Q (.bl (okWord ls z m)) H') ∨ (NotStr K H x ∧ Q (.bl false) H))
def spNeedW (K : PySem.W.Frag) (CW : Addr) : Sp := fun vs H Q E => ∃ ls x m, vs = [.str ls, x, .int m] ∧ ((∃ z, x = .str z ∧ z.length ≤ sizeLine ∧ ∀ H', Grows H H' → (okWord ls z m = true → Q .non H') ∧ (okWord ls z m = false → E (.ref CW) none H')) ∨ (NotStr K H x ∧ E (.ref CW) none H))
theorem passE0 {P : Program} {w : World} {X : Cx} (hP : X.prog = P) (hw : X.w = w) : Passes (L2.CX P w) X E0 := fun pins σ H s e s' I c => by
  obtain ⟨_, _, _, _, _, _, _, _, _, _, _, _, z⟩ := c
  exact z.elim
theorem pi_or {X : Cx} {tg it : Expr} {w1 w2 : TI} (h1 : PI X tg it w1) (h2 : PI X tg it w2) : PI X tg it (fun σ H R => w1 σ H R ∨ w2 σ H R) :=
  ⟨fun pins s σ H R I h => h.elim (h1.run pins s σ H R I) (h2.run pins s σ H R I)⟩
theorem mem_take_len {α : Type} {l : List α} {n : Nat} : (l.take n).length ≤ l.length := by rw [List.length_take]; omega
/-- a def whose last parameter, of a default, is 20000 -/
structure DefW (mg : Str → Option Value) (K : PySem.W.Frag) (x : Str) (f : Addr) (fd : FuncData) (ps : List Str) : Prop where
  g : mg x = some (.ref f)
  k : PySem.W.keepIn K (.ref f) = true
  b : ∃ ds, Vals [V.int 20000] ds ∧ L2.Binds K fd ps ds
theorem tyx_grows {K : PySem.W.Frag} {H H' : Hp} (g : Grows H H') {x : V} {t : Value} (h : TyX K H x t) : TyX K H' x t := by
  cases h with
  | base b =>
    cases b with
    | non => exact .base .non
    | bl y => exact .base (.bl y)
    | int i => exact .base (.int i)
    | str z => exact .base (.str z)
    | flt z => exact .base (.flt z)
    | lst e => exact .base (.lst (g _ _ e))
    | frz e => exact .base (.frz (g _ _ e))
    | tup e => exact .base (.tup (g _ _ e))
    | dK e => exact .base (.dK (g _ _ e))
    | dT e => exact .base (.dT (g _ _ e))
    | ins e cl ha hn ht hm => exact .base (.ins (g _ _ e) cl ha hn ht hm)
  | byt b => exact .byt b
  | set e => exact .set (g _ _ e)
  | kList e c => exact .kList e c
  | kTuple e c => exact .kTuple e c
  | kDict e c => exact .kDict e c
  | fTuple e => exact .fTuple (g _ _ e)
  | fDict e => exact .fDict (g _ _ e)
theorem NotStr.grows {K : PySem.W.Frag} {H H' : Hp} (g : Grows H H') {x : V} (h : NotStr K H x) : NotStr K H' x := by
  obtain ⟨t, h1, h2⟩ := h
  exact ⟨t, tyx_grows g h1, h2⟩
theorem ty_list {K : PySem.W.Frag} {H : Hp} {a : Addr} {xs : List V} (h : SqL K H a xs) : TyX K H (.ref a) (.type "list") := by
  rcases h with (h | ⟨o, h⟩) | ⟨o, its, n, h1, h2, _⟩
  · exact .base (.lst h)
  · exact .base (.frz h)
  · exact .kList h1 h2
theorem ty_tuple {K : PySem.W.Frag} {H : Hp} {a : Addr} {xs : List V} (h : SqT K H a xs) : TyX K H (.ref a) (.type "tuple") := by
  rcases h with (h | ⟨o, h⟩) | ⟨o, its, n, h1, h2, _⟩
  · exact .base (.tup h)
  · exact .fTuple h
  · exact .kTuple h1 h2
theorem ty_sq {K : PySem.W.Frag} {H : Hp} {a : Addr} {xs : List V} (h : Sq K H a xs) : ∃ t : String, TyX K H (.ref a) (.type t) ∧ PySem.W.kitAny K (.type t) [.type "list", .type "tuple"] = some true := by
  rcases h with h | h
  · exact ⟨"list", ty_list h, kitAny_cons (b := true) (kit_ty (by decide +kernel)) (fun z => by cases z) fun _ => rfl⟩
  · exact ⟨"tuple", ty_tuple h, kitAny_cons (b := false) (kit_ty (by decide +kernel)) (fun _ => kitAny_cons (b := true) (kit_ty (by decide +kernel)) (fun z => by cases z) fun _ => rfl) fun z => by cases z⟩
def NotSeq (K : PySem.W.Frag) (H : Hp) (x : V) : Prop := ∃ t : String, TyX K H x (.type t) ∧ kitB t "list" = some false ∧ kitB t "tuple" = some false
theorem NotSeq.grows {K : PySem.W.Frag} {H H' : Hp} (g : Grows H H') {x : V} (h : NotSeq K H x) : NotSeq K H' x := by
  obtain ⟨t, h1, h2⟩ := h
  exact ⟨t, tyx_grows g h1, h2⟩
theorem NotSeq.kit {K : PySem.W.Frag} {t : String} (h1 : kitB t "list" = some false) (h2 : kitB t "tuple" = some false) : PySem.W.kitAny K (.type t) [.type "list", .type "tuple"] = some false :=
  kitAny_cons (b := false) (kit_ty h1) (fun _ => kitAny_cons (b := false) (kit_ty h2) (fun _ => kitAny_nil) fun z => by cases z) fun z => by cases z
section
variable {P : Program} {w : World} {K : PySem.W.Frag} {mg : Str → Option Value} {base : Heap}
theorem scNeedL : FnScope ["thing"] ["thing"] (defScope sNeedL) := ⟨rfl, rfl, rfl, by decide +kernel, rfl, by decide +kernel, by decide +kernel⟩
theorem ok_needL {f f1 CN CS : Addr} {fd fd1 : FuncData} (F : L2.Fun K "need_letters" "need_letters" sNeedL f fd) (G : FnOk P w K mg base CX0 2 f1 fd1 ["thing"] (spIsL K)) (D : Def mg K "is_letters" f1 fd1 ["thing"]) (EN : ErrC K mg "NoLetters" CN CS) :
    FnOk P w K mg base (L2.CX P w) 3 f fd ["thing"] (spNeedL K CN) := by
  refine F.okX scNeedL (fun vs H Q E h => ?_) (fun cdv A outer s H vs Q E hr h => ⟨_,
    pss_one (ps_if (pt_not (pt_truth (pe_call G hr (by rfl) D.g D.k D.b .nil pass0 (pa_cons (pv 0) pa_nil)) (by intro _; rfl)))
      (pss_one (ps_raise rfl (takes_of rfl rfl rfl rfl) (pmk_own PySem.F.excBase_ValueError EN.xC EN.gC EN.kC (raises_own EN.bC EN.tC) rfl))) pss_nil), ?_⟩)
  · obtain ⟨x, rfl, _⟩ := h
    rfl
  · obtain ⟨x, rfl, h⟩ := h
    refine ⟨_, rfl, x, rfl, ?_⟩
    rcases h with ⟨z, rfl, hz, q⟩ | ⟨n, q⟩
    · refine .inl ⟨z, rfl, hz, fun H' g => ?_⟩
      obtain ⟨q1, q2⟩ := q H' g
      cases e : okLetters z with
      | true => exact ⟨true, rfl, if_neg_of (by decide) (q1 e)⟩
      | false => exact ⟨false, rfl, if_pos_of (by decide) (q2 e)⟩
    · exact .inr ⟨n, false, rfl, if_pos_of (by decide) q⟩
end
end SWL
set_option Elab.async false
set_option linter.all false
set_option maxRecDepth 100000
set_option maxHeartbeats 4000000
namespace SWL
open PySem PySem.Spec PyProof.Rows L2 LamX
def stD (g c : Addr) (r t : Int) : List (Key × V) := [(.inr "great", .ref g), (.inr "cells", .ref c), (.inr "rest", .int r), (.inr "turn", .int t)]
theorem st_great (g c : Addr) (r t : Int) : valV (stD g c r t) (.inr "great") = some (.ref g) := rfl
theorem st_cells (g c : Addr) (r t : Int) : valV (stD g c r t) (.inr "cells") = some (.ref c) := rfl
theorem st_rest (g c : Addr) (r t : Int) : valV (stD g c r t) (.inr "rest") = some (.int r) := rfl
theorem st_turn (g c : Addr) (r t : Int) : valV (stD g c r t) (.inr "turn") = some (.int t) := rfl
theorem st_putR (g c : Addr) (r t r' : Int) : putK (stD g c r t) (.inr "rest") (.int r') = stD g c r' t := rfl
theorem st_putT (g c : Addr) (r t t' : Int) : putK (stD g c r t) (.inr "turn") (.int t') = stD g c r t' := rfl
theorem st_new (g c : Addr) : mergeK [] (stD g c 0 0) = stD g c 0 0 := rfl
/-- the state of the draws: at most n blends so far -/
structure SAt (H : Hp) (a g c : Addr) (cs : List Int) (n : Nat) : Prop where
  ex : ∃ (gs : List Int) (r t : Int), H a = some (.dK (stD g c r t)) ∧ H g = some (.lst (gs.map V.int)) ∧ H c = some (.lst (cs.map V.int)) ∧ g ≠ c ∧ (∀ z ∈ gs, 0 ≤ z) ∧ 0 ≤ r ∧ 0 ≤ t ∧ t ≤ n
/-- all stays but the state and its great cells -/
def But (H H' : Hp) (a g : Addr) : Prop := ∀ b o, H b = some o → b ≠ a → b ≠ g → H' b = some o
theorem But.refl (H : Hp) (a g : Addr) : But H H a g := fun _ _ h _ _ => h
theorem But.trans {H H1 H2 : Hp} {a g : Addr} (x : But H H1 a g) (y : But H1 H2 a g) : But H H2 a g := fun b o h h1 h2 => y b o (x b o h h1 h2) h1 h2
theorem But.of {H H' : Hp} {a g : Addr} (x : Grows H H') : But H H' a g := fun b o h _ _ => x b o h
theorem SAt.grows {H H' : Hp} {a g c : Addr} {cs : List Int} {n : Nat} (s : SAt H a g c cs n) (x : Grows H H') : SAt H' a g c cs n := by
  obtain ⟨gs, r, t, h1, h2, h3, h4⟩ := s.ex
  exact ⟨gs, r, t, x _ _ h1, x _ _ h2, x _ _ h3, h4⟩
theorem SAt.mono {H : Hp} {a g c : Addr} {cs : List Int} {n m : Nat} (s : SAt H a g c cs n) (h : n ≤ m) : SAt H a g c cs m := by
  obtain ⟨gs, r, t, h1, h2, h3, h4, h5, h6, h7, h8⟩ := s.ex
  exact ⟨gs, r, t, h1, h2, h3, h4, h5, h6, h7, by omega⟩
def spBegun (K : PySem.W.Frag) : Sp := fun vs H Q _ => ∃ (a : Addr) (ns : List Int), vs = [.ref a] ∧ SqL K H a (ns.map V.int) ∧ ns.length ≤ sizeLine ∧ ∀ H' p g c cs, Grows H H' → SAt H' p g c cs 0 → H p = none → H g = none → Q (.ref p) H'
def spMixed : Sp := fun vs H Q _ => ∃ (a g c : Addr) (cs : List Int) (n : Nat), vs = [.ref a] ∧ SAt H a g c cs n ∧ n ≤ 1000000 ∧ ∀ H' i, 0 ≤ i → SAt H' a g c cs (n + 1) → (∀ b o, H b = some o → b ≠ a → H' b = some o) → Q (.int i) H'
def spDraw : Sp := fun vs H Q _ => ∃ (a g c : Addr) (cs : List Int) (n : Nat) (m : Int), vs = [.ref a, .int m] ∧ SAt H a g c cs n ∧ n ≤ 1000000 ∧ 1 ≤ m ∧ m ≤ 1000000 ∧ ∀ H' i, 0 ≤ i → i < m → SAt H' a g c cs (n + 1) → But H H' a g → Q (.int i) H'
section
variable {P : Program} {w : World} {K : PySem.W.Frag} {mg : Str → Option Value} {base : Heap}
theorem scMixed : FnScope ["state", "turn", "found", "prime", "blend", "cell"] ["state"] (defScope sMixed) := ⟨rfl, rfl, rfl, by decide +kernel, rfl, by decide +kernel, by decide +kernel⟩
theorem ok_mixed {f : Addr} {fd : FuncData} (F : L2.Fun K "_law_mixed" "_law_mixed" sMixed f fd) (B : Blt mg) : FnOk P w K mg base CX0 1 f fd ["state"] spMixed := by
  refine F.ok scMixed (fun vs H Q E h => ?_) (fun cdv A outer s H vs Q E hr h => ⟨_,
    pss_cons (ps_par (i := 1) (j := 2) rfl scMixed.nd rfl rfl (by decide) rfl rfl (pa_cons (pe_op op_add (pe_dget (hu_of hr) (pv 0) pe_str (fun _ _ => rfl)) pe_int) (pa_cons pe_int pa_nil)) (by rfl))
    (pss_cons (ps_dput (hu_of hr) (pv 0) pe_str (pv 1) rfl)
    (pss_cons (ps_for PassesOwn.never rfl (pi_list (pe_lst (pa_cons pe_int (pa_cons pe_int (pa_cons pe_int (pa_cons pe_int pa_nil)))))) (pg_name (i := 3) scMixed.nd rfl (Or.inl rfl))
      (pss_cons (ps_set (i := 4) scMixed.nd rfl (Or.inl rfl) (pe_op op_add (pe_op op_mul pe_int (pv 1)) (pe_op op_fdivN (pv 3) pe_int)))
      (pss_cons (ps_for PassesOwn.never rfl (pi_list (pe_dget (hu_of hr) (pv 0) pe_str (fun _ _ => rfl))) (pg_name (i := 5) scMixed.nd rfl (Or.inl rfl))
        (pss_one (ps_set (i := 4) scMixed.nd rfl (Or.inl rfl) (pe_op op_modN (pe_callTy call_int1 (by rfl) B.int (by decide +kernel) (pa_cons (pe_op op_add (pe_op op_add (pe_op op_mul (pv 4) pe_int) (pv 5)) (pv 1)) pa_nil)) (pv 3)))))
      (pss_one (ps_set (i := 2) scMixed.nd rfl (Or.inl rfl) (pe_op op_add (pe_op op_mul (pv 2) pe_int) (pe_op op_modN (pe_callTy call_int1 (by rfl) B.int (by decide +kernel) (pa_cons (pe_op op_pow (pv 4) pe_int) pa_nil)) (pv 3))))))))
    (pss_one (ps_ret (pv 2))))), ?_⟩)
  · obtain ⟨a, g, c, cs, n, rfl, _⟩ := h
    rfl
  · obtain ⟨a, g, c, cs, n, rfl, hs, hn, q⟩ := h
    obtain ⟨gs, r, t, h1, h2, h3, h4, h5, h6, h7, h8⟩ := hs.ex
    have ag : g ≠ a := ne_of h2 h1 (by intro z; cases z)
    have ac : c ≠ a := ne_of h3 h1 (by intro z; cases z)
    refine ⟨_, rfl, a, _, rfl, (st_turn g c r t) ▸ DGet.k (k := .inr "turn") h1, t, 1, rfl, rfl, _, _, rfl, ?_⟩
    refine ⟨_, rfl, _, rfl, a, _, rfl, DPut.k (k := .inr "turn") h1 (by show 4 < sizeLine; decide), ?_⟩
    rw [st_putT]
    generalize hH1 : upd H a (.dK (stD g c r (t + 1))) = H1
    have k1 : H1 a = some (.dK (stD g c r (t + 1))) := by rw [← hH1, upd_same]
    have o1 : ∀ b o, H b = some o → b ≠ a → H1 b = some o := fun b o e hb => by rw [← hH1, upd_ne hb]; exact e
    have s1 : SAt H1 a g c cs (n + 1) := ⟨gs, r, t + 1, k1, o1 _ _ h2 ag, o1 _ _ h3 ac, h4, h5, h6, by omega, by omega⟩
    refine ⟨by show 4 ≤ sizeLine; decide, fun L nL => ?_⟩
    have gL : Grows H1 (upd H1 L (.lst [.int 2147483549, .int 2147483543, .int 2147483497, .int 2147483489])) := Grows.new nL
    have kL : upd H1 L (.lst [.int 2147483549, .int 2147483543, .int 2147483497, .int 2147483489]) L = some (.lst ([2147483549, 2147483543, 2147483497, 2147483489].map V.int)) := by rw [upd_same]; rfl
    generalize upd H1 L (.lst [.int 2147483549, .int 2147483543, .int 2147483497, .int 2147483489]) = H2 at gL kL ⊢
    have s2 := s1.grows gL
    have c2 := gL _ _ (o1 _ _ h3 ac)
    have a2 := gL _ _ k1
    refine ⟨L, rfl, ⟨_, .inl (.inl kL)⟩, for_list (K := K) (a := L) (xs := [2147483549, 2147483543, 2147483497, 2147483489].map V.int) (fun i σ H' => H' = H2 ∧ ∃ (fo : Int) (v1 v2 v3 : Option V), 0 ≤ fo ∧ σ = [some (.ref a), some (.int (t + 1)), some (.int fo), v1, v2, v3])
      ⟨rfl, 0, none, none, none, Int.le_refl _, rfl⟩ (fun i σ H' _ ⟨e, _⟩ => by rw [e]; exact .inl (.inl kL)) ?_ ?_⟩
    · rintro i x σ H' hi ⟨rfl, fo, v1, v2, v3, hfo, rfl⟩
      obtain ⟨z, hz, rfl, hz1, hz2⟩ : ∃ z, [(2147483549 : Int), 2147483543, 2147483497, 2147483489][i]? = some z ∧ x = .int z ∧ 2147483489 ≤ z ∧ z ≤ 2147483549 := by
        rw [List.getElem?_map] at hi
        cases e : [(2147483549 : Int), 2147483543, 2147483497, 2147483489][i]? with
        | none => rw [e] at hi; cases hi
        | some z =>
          rw [e] at hi
          refine ⟨z, rfl, (Option.some.inj hi).symm, ?_⟩
          have hm := List.mem_of_getElem? e
          simp only [List.mem_cons, List.not_mem_nil, or_false] at hm
          omega
      have hdiv : (0 : Int) ≤ z.fdiv 41 ∧ z.fdiv 41 ≤ 2147483549 := by
        rw [Int.fdiv_eq_ediv_of_nonneg _ (by decide : (0 : Int) ≤ 41)]
        omega
      refine ⟨_, rfl, _, _, rfl, rfl, .inl ⟨by decide, by decide⟩, _, rfl, z, 41, rfl, rfl, ⟨by decide, by decide⟩, _, _, rfl, rfl, ?_⟩
      have hz0 : (0 : Int) < z := by omega
      have md : ∀ y : Int, 0 ≤ y.fmod z ∧ y.fmod z < z := fun y => by
        rw [Int.fmod_eq_emod_of_nonneg _ (Int.le_of_lt hz0)]
        exact ⟨Int.emod_nonneg _ (by omega), Int.emod_lt_of_pos _ hz0⟩
      refine ⟨_, rfl, a, _, rfl, (st_cells g c r (t + 1)) ▸ DGet.k (k := .inr "cells") a2, c, rfl, ⟨_, .inl (.inl c2)⟩, for_list (K := K) (a := c) (xs := cs.map V.int) (fun i σ H'' => H'' = H' ∧ ∃ (bl : Int) (v3 : Option V), 0 ≤ bl ∧ bl < 2 ^ 60 ∧ σ = [some (.ref a), some (.int (t + 1)), some (.int fo), some (.int z), some (.int bl), v3])
        ⟨rfl, 69621 * (t + 1) + z.fdiv 41, v3, by omega, by omega, rfl⟩ (fun i σ H'' _ ⟨e, _⟩ => by rw [e]; exact .inl (.inl c2)) ?_ ?_⟩
      · rintro i x σ H'' hi ⟨rfl, bl, v3, hb1, hb2, rfl⟩
        obtain ⟨y, rfl⟩ : ∃ y, x = .int y := by
          rw [List.getElem?_map] at hi
          cases e : cs[i]? with
          | none => rw [e] at hi; cases hi
          | some y => rw [e] at hi; exact ⟨y, (Option.some.inj hi).symm⟩
        obtain ⟨m1, m2⟩ := md (bl * 48271 + y + (t + 1))
        refine ⟨_, rfl, _, _, rfl, rfl, .inr ⟨by decide, by decide⟩, _, rfl, _, _, rfl, rfl, _, rfl, _, _, rfl, rfl, .inl ⟨_, rfl, _, rfl, _, _, rfl, rfl, by omega, ?_⟩⟩
        exact ⟨rfl, _, some (.int y), m1, by omega, rfl⟩
      · rintro σ H'' ⟨rfl, bl, v3, hb1, hb2, rfl⟩
        obtain ⟨m1, m2⟩ := md (bl ^ 5)
        refine ⟨_, rfl, _, _, rfl, rfl, .inr ⟨by decide, by decide⟩, _, rfl, _, _, rfl, rfl, ⟨by decide, by decide, by omega⟩, .inl ⟨_, rfl, _, rfl, _, _, rfl, rfl, by omega, _, _, rfl, rfl, ?_⟩⟩
        exact ⟨rfl, _, some (.int z), some (.int bl), v3, by
          have : (0 : Int) ≤ fo * 2147483659 := Int.mul_nonneg hfo (by decide)
          exact Int.add_nonneg this m1, rfl⟩
    · rintro σ H' ⟨rfl, fo, v1, v2, v3, hfo, rfl⟩
      exact ⟨_, rfl, q H' fo hfo s2 fun b o e hb => gL _ _ (o1 b o e hb)⟩
theorem scDraw : FnScope ["state", "room", "found"] ["state", "room"] (defScope sDraw) := ⟨rfl, rfl, rfl, by decide +kernel, rfl, by decide +kernel, by decide +kernel⟩
theorem dp_ints {H : Hp} : ∀ {l : List Int}, DpAll K H (l.map V.int) (l.map PyData.int)
  | [] => .nil
  | x :: l => .cons (.int x) dp_ints
theorem shaped_ints (l : List Int) : SeqAt.shaped (.list (l.map PyData.int)) = true := by
  have e : ∀ l : List Int, PyData.canLayAll0 (l.map PyData.int) = true := fun l => by
    induction l with
    | nil => rfl
    | cons x l ih => simp [PyData.canLayAll0, PyData.canLay0, ih]
  have d : PyData.depth (.list (l.map PyData.int)) ≤ 64 := by
    rw [PyData.depth, PySem.W.depth_ints]
    decide
  unfold SeqAt.shaped
  rw [Bool.and_eq_true]
  exact ⟨by rw [PyData.canLay0]; exact e l, decide_eq_true d⟩
theorem eqv_nil (l : List Int) : PyData.eqv (.list (l.map PyData.int)) (.list []) = decide (l = []) := by
  cases l <;> rfl
def rInt1 : List V → Hp → VK → Prop := fun xs H Q => (∃ i, xs = [.int i] ∧ Q (.int i) H) ∨ ∃ k, xs = [.bl k] ∧ Q (.int (if k then 1 else 0)) H
/-- found = int(state['rest']) % room; state['rest'] = state['rest'] // room; return found -/
def t_fin : TS := tSeq (tAsg (tOp (rI (fun _ j => j ≠ 0) fun i j => .int (i.fmod j)) (tCB rInt1 (tCons (tDGet (tVar 0) (tC (.str "rest"))) tNil)) (tVar 1)) (gName 2))
  (tSeq (sDPut (tVar 0) (tC (.str "rest")) (tOp (rI CDivN fun i j => .int (i.fdiv j)) (tDGet (tVar 0) (tC (.str "rest"))) (tVar 1))) (tRet (tVar 2)))
theorem draw_fin {H H1 : Hp} {a g c : Addr} {cs gs : List Int} {n : Nat} {m r t : Int} {Q : VK} (hm1 : 1 ≤ m) (hm2 : m ≤ 1000000) (h4 : g ≠ c) (ag : g ≠ a) (ac : c ≠ a) (q : ∀ H' i, 0 ≤ i → i < m → SAt H' a g c cs (n + 1) → But H H' a g → Q (.int i) H')
    (hb : But H H1 a g) (k1 : H1 a = some (.dK (stD g c r t))) (k2 : H1 g = some (.lst (gs.map V.int))) (k3 : H1 c = some (.lst (cs.map V.int))) (k5 : ∀ z ∈ gs, 0 ≤ z) (k6 : 0 ≤ r) (k7 : 0 ≤ t) (k8 : t ≤ ((n + 1 : Nat) : Int)) :
    t_fin { nx := fun _ H' => Q .non H', rt := Q } [some (.ref a), some (.int m), none] H1 := by
  have hm0 : (0 : Int) < m := by omega
  refine ⟨_, rfl, a, _, rfl, (st_rest g c r t) ▸ DGet.k (k := .inr "rest") k1, .inl ⟨_, rfl, _, rfl, _, _, rfl, rfl, by omega, ?_⟩⟩
  refine ⟨_, rfl, a, _, rfl, (st_rest g c r t) ▸ DGet.k (k := .inr "rest") k1, _, rfl, _, _, rfl, rfl, ⟨by omega, by omega⟩, ?_⟩
  refine ⟨_, rfl, a, _, rfl, DPut.k (k := .inr "rest") k1 (by show 4 < sizeLine; decide), ?_⟩
  rw [st_putR]
  have e1 : r.fmod m = r % m := Int.fmod_eq_emod_of_nonneg _ (Int.le_of_lt hm0)
  have e2 : r.fdiv m = r / m := Int.fdiv_eq_ediv_of_nonneg _ (Int.le_of_lt hm0)
  refine ⟨_, rfl, q _ _ (by rw [e1]; exact Int.emod_nonneg _ (by omega)) (by rw [e1]; exact Int.emod_lt_of_pos _ hm0) ⟨gs, r.fdiv m, t, upd_same, by rw [upd_ne ag]; exact k2, by rw [upd_ne ac]; exact k3, h4, k5, by rw [e2]; exact Int.ediv_nonneg k6 (Int.le_of_lt hm0), k7, k8⟩ fun b o e n1 n2 => ?_⟩
  rw [upd_ne n1]
  exact hb b o e n1 n2
theorem ok_draw {f f1 : Addr} {fd fd1 : FuncData} (F : L2.Fun K "_law_draw" "_law_draw" sDraw f fd) (B : Blt mg) (G : FnOk P w K mg base CX0 1 f1 fd1 ["state"] spMixed) (D : Def mg K "_law_mixed" f1 fd1 ["state"]) : FnOk P w K mg base CX0 2 f fd ["state", "room"] spDraw := by
  refine F.ok scDraw (fun vs H Q E h => ?_) (fun cdv A outer s H vs Q E hr h => ⟨_,
    pss_cons (ps_if (pt_cmpR op_eq (pe_dget (hu_of hr) (pv 0) pe_str (fun _ _ => rfl)) pe_int (nomark _))
      (pss_one (ps_dput (hu_of hr) (pv 0) pe_str (pe_ifExp (pt_cmpR (op_neD (by have := hr.un; show (A.deeper _).units + 64 < _; omega)) (pe_dget (hu_of hr) (pv 0) pe_str (fun _ _ => rfl)) (pe_lst pa_nil) (nomark _))
        (pe_bm PySem.F.plainAttrs_list PySem.F.slot_list_pop PySem.F.type_list_pop mt_popAt (pe_dget (hu_of hr) (pv 0) pe_str (fun _ _ => rfl)) (pa_cons pe_int pa_nil))
        (pe_call G hr (by rfl) D.g D.k D.b .nil pass0 (pa_cons (pv 0) pa_nil))) rfl)) pss_nil)
    (pss_cons (ps_set (i := 2) scDraw.nd rfl (Or.inl rfl) (pe_op op_modN (pe_callTy call_int1 (by rfl) B.int (by decide +kernel) (pa_cons (pe_dget (hu_of hr) (pv 0) pe_str (fun _ _ => rfl)) pa_nil)) (pv 1)))
    (pss_cons (ps_dput (hu_of hr) (pv 0) pe_str (pe_op op_fdivN (pe_dget (hu_of hr) (pv 0) pe_str (fun _ _ => rfl)) (pv 1)) rfl)
    (pss_one (ps_ret (pv 2))))), ?_⟩)
  · obtain ⟨a, g, c, cs, n, m, rfl, _⟩ := h
    rfl
  · obtain ⟨a, g, c, cs, n, m, rfl, hs, hn, hm1, hm2, q⟩ := h
    obtain ⟨gs, r, t, h1, h2, h3, h4, h5, h6, h7, h8⟩ := hs.ex
    have ag : g ≠ a := ne_of h2 h1 (by intro z; cases z)
    have ac : c ≠ a := ne_of h3 h1 (by intro z; cases z)
    have hm0 : (0 : Int) < m := by omega
    have fin := fun (H1 : Hp) gs r t => draw_fin (H1 := H1) (n := n) (gs := gs) (r := r) (t := t) hm1 hm2 h4 ag ac q
    refine ⟨_, rfl, a, _, rfl, (st_rest g c r t) ▸ DGet.k (k := .inr "rest") h1, rfl, _, rfl, ?_⟩
    by_cases hr0 : r = 0
    · refine if_pos_of (decide_eq_true (congrArg V.int hr0)) ?_
      refine ⟨_, rfl, a, _, rfl, (st_great g c r t) ▸ DGet.k (k := .inr "great") h1, by show 0 ≤ sizeLine; decide, fun p np => ?_⟩
      have gp : Grows H (upd H p (.lst [])) := Grows.new np
      have kp : upd H p (.lst []) p = some (.lst []) := upd_same
      generalize upd H p (.lst []) = H2 at gp kp ⊢
      refine ⟨.list (gs.map PyData.int), .list [], .lst (.inl (.inl (gp _ _ h2))) dp_ints, .lst (.inl (.inl kp)) .nil, shaped_ints gs, rfl, _, rfl, ?_⟩
      rw [eqv_nil]
      cases gs with
      | nil =>
        refine if_neg_of (by decide) ?_
        refine ⟨_, rfl, a, g, c, cs, n, rfl, hs.grows gp, hn, fun H3 i hi s3 hk3 => ?_⟩
        obtain ⟨gs', r', t', k1, k2, k3, k4, k5, k6, k7, k8⟩ := s3.ex
        refine ⟨_, rfl, a, _, rfl, DPut.k (k := .inr "rest") k1 (by show 4 < sizeLine; decide), ?_⟩
        rw [st_putR]
        refine fin (upd H3 a (.dK (stD g c i t'))) gs' i t' (fun b o e n1 n2 => ?_) upd_same (by rw [upd_ne ag]; exact k2) (by rw [upd_ne ac]; exact k3) k5 hi k7 k8
        rw [upd_ne n1]
        exact hk3 b o (gp b o e) n1
      | cons y gs =>
        refine if_pos_of (by rw [decide_eq_false (by simp)]; decide) ?_
        refine ⟨_, rfl, a, .ref g, rfl, (st_great g c r t) ▸ DGet.k (k := .inr "great") (gp _ _ h1), Or.inl ⟨rfl, _, .inl (.inl (gp _ _ h2))⟩, g, _, 0, 0, .int y, rfl, rfl, gp _ _ h2, by decide, by decide, by simp [seqIndex?], rfl, ?_⟩
        refine ⟨_, rfl, a, _, rfl, DPut.k (k := .inr "rest") (show upd H2 g _ a = _ from (upd_ne ag.symm).trans (gp _ _ h1)) (by show 4 < sizeLine; decide), ?_⟩
        rw [st_putR]
        refine fin (upd (upd H2 g (.lst ((gs.map V.int)))) a (.dK (stD g c y t))) gs y t (fun b o e n1 n2 => ?_) upd_same (by rw [upd_ne ag, upd_same]) (by rw [upd_ne ac, upd_ne h4.symm]; exact gp _ _ h3) (fun z hz => h5 z (List.mem_cons_of_mem _ hz)) (h5 y List.mem_cons_self) h7 (by omega)
        rw [upd_ne n1, upd_ne n2]
        exact gp b o e
    · refine if_neg_of (by rw [decide_eq_false (fun z => hr0 (V.int.inj z))]; decide) ?_
      exact fin H gs r t (But.refl H a g) h1 h2 h3 h5 h6 h7 (by omega)
def spPick : Sp := fun vs H Q _ => ∃ (a g c l : Addr) (cs : List Int) (n : Nat) (xs : List V), vs = [.ref a, .ref l] ∧ SAt H a g c cs n ∧ n ≤ 1000000 ∧ H l = some (.lst xs) ∧ l ≠ g ∧ xs ≠ [] ∧ xs.length ≤ 1000000 ∧ ∀ H' x, x ∈ xs → SAt H' a g c cs (n + 1) → But H H' a g → Q x H'
def absI : V → Int
  | .int i => if i < 0 then -i else i
  | _ => 0
theorem absI_nn (v : V) : 0 ≤ absI v := by
  cases v <;> (unfold absI; try exact Int.le_refl _)
  split <;> omega
theorem scPick : FnScope ["state", "some"] ["state", "some"] (defScope sPick) := ⟨rfl, rfl, rfl, by decide +kernel, rfl, by decide +kernel, by decide +kernel⟩
theorem ok_pick {f f1 : Addr} {fd fd1 : FuncData} (F : L2.Fun K "_law_pick" "_law_pick" sPick f fd) (B : Blt mg) (G : FnOk P w K mg base CX0 2 f1 fd1 ["state", "room"] spDraw) (D : Def mg K "_law_draw" f1 fd1 ["state", "room"]) : FnOk P w K mg base CX0 3 f fd ["state", "some"] spPick := by
  refine F.ok scPick (fun vs H Q E h => ?_) (fun cdv A outer s H vs Q E hr h => ⟨_,
    pss_one (ps_ret (pe_ix ix_list (pv 1) (pe_call G hr (by rfl) D.g D.k D.b .nil pass0 (pa_cons (pv 0) (pa_cons (pe_callB call_len_seq (by rfl) B.len PySem.boot_len (pa_cons (pv 1) pa_nil)) pa_nil))) (fun _ _ => rfl))), ?_⟩)
  · obtain ⟨a, g, c, l, cs, n, xs, rfl, _⟩ := h
    rfl
  · obtain ⟨a, g, c, l, cs, n, xs, rfl, hs, hn, hl, lg, hne, hlen, q⟩ := h
    have la : l ≠ a := by
      obtain ⟨gs, r, t, h1, _⟩ := hs.ex
      exact ne_of hl h1 (by intro z; cases z)
    have hpos : 0 < xs.length := List.length_pos_iff.mpr hne
    refine ⟨_, rfl, _, rfl, _, rfl, l, xs, rfl, .inl (.inl (.inl hl)), a, g, c, cs, n, _, rfl, hs, hn, by omega, by omega, fun H' i hi hlt s' hb => ?_⟩
    obtain ⟨k, rfl⟩ : ∃ k : Nat, i = k := ⟨i.toNat, by omega⟩
    have hk : k < xs.length := by omega
    exact ⟨l, xs, k, xs[k], rfl, rfl, .inl (.inl (hb l _ hl la lg)), atI_nat (List.getElem?_eq_getElem hk), q H' _ (List.getElem_mem hk) s' hb⟩
theorem scBegun : FnScope ["script", "great", "cell"] ["script"] (defScope sBegun) := ⟨rfl, rfl, rfl, by decide +kernel, rfl, by decide +kernel, by decide +kernel⟩
theorem ok_begun {f : Addr} {fd : FuncData} (F : L2.Fun K "_law_begun" "_law_begun" sBegun f fd) (B : Blt mg) : FnOk P w K mg base CX0 1 f fd ["script"] (spBegun K) := by
  refine F.ok scBegun (fun vs H Q E h => ?_) (fun cdv A outer s H vs Q E hr h => ⟨_,
    pss_cons (ps_setLc (i := 1) (own := [("cell", 2)]) (g := gName 2) rfl scBegun.nd rfl rfl (sw_true rfl rfl rfl (by decide +kernel)) (pi_list (pv 0)) (blkOk_by (N := ["script", "great", "cell"]) (sc := defScope sBegun) (by decide +kernel)) (fun _ _ _ _ _ => pg_name (i := 2) scBegun.nd rfl (Or.inl rfl))
        (fun _ _ _ _ _ => pts_one (pt_cmpR op_ge (pe_callB call_abs (by rfl) B.abs (by decide +kernel) (pa_cons (pv 2) pa_nil)) (pe_op op_pow pe_int pe_int) (nomark _)))
        (fun _ _ _ _ _ => pe_op op_sub (pe_callB call_abs (by rfl) B.abs (by decide +kernel) (pa_cons (pv 2) pa_nil)) (pe_op op_pow pe_int pe_int)))
    (pss_one (ps_ret (pe_disp (pps_cons pe_str (pv 1) (pps_cons pe_str
        (pe_lc (own := [("cell", 2)]) (g := gName 2) (tt := tYes) rfl scBegun.nd (pi_list (pv 0)) (blkOk_by (N := ["script", "great", "cell"]) (sc := defScope sBegun) (by decide +kernel)) (fun _ _ _ _ _ => pg_name (i := 2) scBegun.nd rfl (Or.inl rfl)) (fun _ _ _ _ _ => pts_nil)
          (fun _ _ _ _ _ => pe_callB call_abs (by rfl) B.abs (by decide +kernel) (pa_cons (pv 2) pa_nil)))
        (pps_cons pe_str pe_int (pps_cons pe_str pe_int pps_nil)))) (by rfl) (by rfl) (by simp) (by decide)))), ?_⟩)
  · obtain ⟨a, ns, rfl, _⟩ := h
    rfl
  · obtain ⟨a, ns, rfl, hs, hn, q⟩ := h
    have hlen : (ns.map V.int).length ≤ sizeLine := by rw [List.length_map]; exact hn
    refine ⟨_, rfl, a, rfl, ⟨_, hs⟩, fun g0 ng => comp (xs := ns.map V.int) walk_list (fun v => decide ((10 : Int) ^ (18 : Int).toNat ≤ absI v)) (fun v => .int (absI v - (10 : Int) ^ (18 : Int).toNat)) ng (fun H g => g.l hs) hlen
      (fun x H k hx g hk => ?_) (fun x H Q hx hp g hq => ?_) (fun H1 g1 hg1 => ?_)⟩
    · obtain ⟨z, _, rfl⟩ := List.mem_map.mp hx
      exact ⟨_, rfl, z, rfl, _, _, rfl, rfl, ⟨by decide, by decide, by decide⟩, _, _, rfl, rfl, _, rfl, hk H (Grows.refl H)⟩
    · obtain ⟨z, _, rfl⟩ := List.mem_map.mp hx
      exact ⟨_, rfl, z, rfl, _, _, rfl, rfl, ⟨by decide, by decide, by decide⟩, _, _, rfl, rfl, hq H (Grows.refl H)⟩
    · intro p np
      have np0 : H p = none := by
        cases e : H p with
        | none => rfl
        | some o => rw [g1 _ _ e] at np; cases np
      have gp : Grows H1 (upd H1 p (.dK [])) := Grows.new np
      have kp : upd H1 p (.dK []) p = some (.dK []) := upd_same
      generalize upd H1 p (.dK []) = H2 at gp kp ⊢
      have g2 := g1.trans gp
      refine ⟨_, rfl, ?_⟩
      refine ⟨_, rfl, a, rfl, ⟨_, g2.l hs⟩, fun c0 nc => comp (xs := ns.map V.int) walk_list (fun _ => true) (fun v => .int (absI v)) nc (fun H g => (g2.trans g).l hs) hlen (fun x H k hx g hk => hk H (Grows.refl H)) (fun x H Q hx hp g hq => ?_) (fun H3 g3 hg3 => ?_)⟩
      · obtain ⟨z, _, rfl⟩ := List.mem_map.mp hx
        exact ⟨_, rfl, z, rfl, hq H (Grows.refl H)⟩
      · rw [filter_yes] at hg3
        refine ⟨g3 _ _ kp, stD g0 c0 0 0, rfl, by show 4 ≤ 15; decide, ?_⟩
        rw [st_new]
        have gP : g0 ≠ p := ne_of (gp _ _ hg1) kp (by intro z; cases z)
        have cP : c0 ≠ p := ne_of hg3 (g3 _ _ kp) (by intro z; cases z)
        have gc : g0 ≠ c0 := ne_of_none (gp _ _ hg1) nc
        refine q _ p g0 c0 ((ns.map V.int).map absI) (fun b o e => ?_) ⟨((ns.map V.int).filter fun v => decide ((10 : Int) ^ (18 : Int).toNat ≤ absI v)).map (fun v => absI v - (10 : Int) ^ (18 : Int).toNat), 0, 0, upd_same, ?_, ?_, gc, ?_, by decide, by decide, by decide⟩ np0 ng
        · rw [upd_ne (ne_of_none e np0)]
          exact g3 _ _ (g2 _ _ e)
        · rw [upd_ne gP, g3 _ _ (gp _ _ hg1), List.map_map]
          rfl
        · rw [upd_ne cP, hg3]
          simp only [List.map_map]
          rfl
        · intro z hz
          obtain ⟨v, hv, rfl⟩ := List.mem_map.mp hz
          have := of_decide_eq_true (List.mem_filter.mp hv).2
          omega
end
end SWL
set_option Elab.async false
set_option linter.all false
set_option maxRecDepth 100000
set_option maxHeartbeats 4000000
namespace SWL
open PySem PySem.Spec PyProof.Rows L2 LamX
theorem pe_no {X : Cx} {e : Expr} : PE X e (fun _ _ _ => False) := ⟨fun _ _ _ _ _ _ h => h.elim⟩
theorem pss_no {X : Cx} {b : List Stmt} : PSs X b (fun _ _ _ => False) := ⟨fun _ _ _ _ _ _ h => h.elim⟩
def spPlain (K : PySem.W.Frag) (k : Nat) : Sp := fun vs H Q _ => ∃ x d, vs = [x] ∧ Dp K H x d ∧ d.depth < k ∧ ∀ H', Grows H H' → Q (.bl true) H'
section
variable {P : Program} {w : World} {K : PySem.W.Frag} {mg : Str → Option Value} {base : Heap}
theorem scPlain : FnScope ["value", "one"] ["value"] (defScope sPlain) := ⟨rfl, rfl, rfl, by decide +kernel, rfl, by decide +kernel, by decide +kernel⟩
theorem dpall_mem {H : Hp} : ∀ {xs : List V} {ds : List PyData}, DpAll K H xs ds → ∀ x ∈ xs, ∃ d, Dp K H x d ∧ d.depth ≤ PyData.depthAll ds
  | _, _, .nil, x, hx => by cases hx
  | _, _, .cons (d := d) (ds := ds) h t, x, hx => by
    rcases List.mem_cons.mp hx with rfl | hx
    · exact ⟨d, h, by rw [PyData.depthAll]; omega⟩
    · obtain ⟨d', h1, h2⟩ := dpall_mem t x hx
      exact ⟨d', h1, by rw [PyData.depthAll]; omega⟩
theorem ok_plain {f : Addr} {fd : FuncData} (F : L2.Fun K "_law_plain" "_law_plain" sPlain f fd) (B : Blt mg) (D : Def mg K "_law_plain" f fd ["value"]) : ∀ k : Nat, FnOk P w K mg base CX0 (k + 1) f fd ["value"] (spPlain K k)
  | 0 => F.ok scPlain (fun vs H Q E h => by obtain ⟨x, d, rfl, _⟩ := h; rfl) (fun cdv A outer s H vs Q E hr h => by
      obtain ⟨x, d, _, _, z, _⟩ := h
      exact absurd z (Nat.not_lt_zero _))
  | k + 1 => by
    have G := ok_plain F B D k
    refine F.ok scPlain (fun vs H Q E h => by obtain ⟨x, d, rfl, _⟩ := h; rfl) (fun cdv A outer s H vs Q E hr h => ⟨_,
      pss_cons (ps_if (pt_truth (pe_callB call_isiT (by rfl) B.isi (by decide +kernel) (pa_cons (pv 0) (pa_cons (pe_tup (pa_cons (pe_bltn (u := .type "list") (v := .ty "list") (by rfl) B.list (by decide +kernel) rfl) (pa_cons (pe_bltn (u := .type "tuple") (v := .ty "tuple") (by rfl) B.tuple (by decide +kernel) rfl) pa_nil))) pa_nil))) (by intro _; rfl))
        (pss_one (ps_ret (pe_cmpR (op_eqD (by have := hr.un; show (A.deeper _).units + 64 < _; omega)) (pe_lc (own := [("one", 1)]) (g := gName 1) (tt := tNot fun σ H Q => tCall (spPlain K k) [] E0 (tCons (tVar 1) tNil) σ H fun x H' => ∃ k, TruV K x H' k ∧ Q k H') rfl scPlain.nd (pi_or (pi_list (pv 0)) (pi_tup (pv 0))) (blkOk_by (N := ["value", "one"]) (sc := defScope sPlain) (by decide +kernel)) (fun _ _ _ _ _ => pg_name (i := 1) scPlain.nd rfl (Or.inl rfl))
          (fun _ _ _ _ _ => pts_one (pt_not (pt_truth (pe_call G hr (by rfl) D.g D.k D.b .nil pass0 (pa_cons (pv 1) pa_nil)) (by intro _; rfl)))) (fun _ _ _ _ _ => pe_int)) (pe_lst pa_nil) (nomark _)))) pss_nil)
      (pss_cons (ps_if (pt_truth (pe_callB call_isi (by rfl) B.isi (by decide +kernel) (pa_cons (pv 0) (pa_cons (pe_bltn (u := .type "dict") (v := .ty "dict") (by rfl) B.dict (by decide +kernel) rfl) pa_nil))) (by intro _; rfl)) pss_no pss_nil)
      (pss_one (ps_ret (pe_or (pe_cmpR op_isN1 (pv 0) pe_non (nomark _)) (pe_one (pe_callB call_isiT (by rfl) B.isi (by decide +kernel) (pa_cons (pv 0) (pa_cons (pe_tup (pa_cons (pe_bltn (u := .type "int") (v := .ty "int") (by rfl) B.int (by decide +kernel) rfl) (pa_cons (pe_bltn (u := .type "str") (v := .ty "str") (by rfl) B.str (by decide +kernel) rfl) pa_nil))) pa_nil)))))))), ?_⟩)
    obtain ⟨x, d, rfl, hd, hk, q⟩ := h
    refine ⟨_, rfl, by show 2 ≤ sizeLine; decide, fun tp ntp => ?_⟩
    have gt : Grows H (upd H tp (.tup [.ty "list", .ty "tuple"])) := Grows.new ntp
    have kt : upd H tp (.tup [.ty "list", .ty "tuple"]) tp = some (.tup [.ty "list", .ty "tuple"]) := upd_same
    generalize upd H tp (.tup [.ty "list", .ty "tuple"]) = H1 at gt kt ⊢
    have kinds : (∃ (a : Addr) (xs : List V) (ds : List PyData), x = .ref a ∧ Sq K H a xs ∧ DpAll K H xs ds ∧ d.depth = 1 + PyData.depthAll ds) ∨ ∃ t : String, TyX K H x (.type t) ∧ kitB t "list" = some false ∧ kitB t "tuple" = some false ∧ kitB t "dict" = some false ∧ (x = .non ∨ (x ≠ .non ∧ PySem.W.kitAny K (.type t) [.type "int", .type "str"] = some true)) := by
      cases hd with
      | non => exact .inr ⟨"NoneType", .base .non, by decide +kernel, by decide +kernel, by decide +kernel, .inl rfl⟩
      | bl b => exact .inr ⟨"bool", .base (.bl b), by decide +kernel, by decide +kernel, by decide +kernel, .inr ⟨(by intro z; cases z), kitAny_cons (b := true) (kit_ty (by decide +kernel)) (fun z => by cases z) fun _ => rfl⟩⟩
      | int b => exact .inr ⟨"int", .base (.int b), by decide +kernel, by decide +kernel, by decide +kernel, .inr ⟨(by intro z; cases z), kitAny_cons (b := true) (kit_ty (by decide +kernel)) (fun z => by cases z) fun _ => rfl⟩⟩
      | str b => exact .inr ⟨"str", .base (.str b), by decide +kernel, by decide +kernel, by decide +kernel, .inr ⟨(by intro z; cases z), kitAny_cons (b := false) (kit_ty (by decide +kernel)) (fun _ => kitAny_cons (b := true) (kit_ty (by decide +kernel)) (fun z => by cases z) fun _ => rfl) fun z => by cases z⟩⟩
      | lst h1 h2 => exact .inl ⟨_, _, _, rfl, .inl h1, h2, by rw [PyData.depth]; omega⟩
      | tup h1 h2 => exact .inl ⟨_, _, _, rfl, .inr h1, h2, by rw [PyData.depth]; omega⟩
    rcases kinds with ⟨a, xs, ds, rfl, hs, hds, hdep⟩ | ⟨t, ty, k1, k2, k3, k4⟩
    · obtain ⟨t, ty, ka⟩ := ty_sq (gt.sq hs)
      refine ⟨.ref a, tp, _, .type t, [.type "list", .type "tuple"], true, rfl, kt, .cons (.ty _) (.cons (.ty _) .nil), ty, ka, true, rfl, if_pos_of rfl ?_⟩
      have main : ∀ (J : It) (G : Hp → Prop), Walk J xs.length G (YAt xs) → (∀ H', Grows H1 H' → G H') → _ := fun J G wk hG D0 (nD : H1 D0 = none) =>
        compF (σ := [some (.ref a), none]) (i := 1) (te := tC (.int 1)) (tt := tNot fun σ H Q => tCall (spPlain K k) [] E0 (tCons (tVar 1) tNil) σ H fun x H' => ∃ k, TruV K x H' k ∧ Q k H')
          (Qd := fun H2 => tLst tNil [some (.ref a), none] H2 fun y H3 => rEqD K (.ref D0) y H3 fun v H4 => Q v H4) wk (fun _ => false) (fun _ => .int 1) nD hG (by rw [show xs.filter (fun _ => false) = [] from by simp]; exact Nat.zero_le _)
          (fun y H2 kk hy g2 hkk => by
            obtain ⟨d', h1, h2⟩ := dpall_mem hds y hy
            refine ⟨_, rfl, y, d', rfl, (gt.trans g2).dp _ _ h1, by omega, fun H3 g3 => ⟨true, rfl, hkk H3 g3⟩⟩)
          (fun y H2 Q hy hp => by cases hp)
          (fun H2 g2 hD => by
            have e : (xs.filter fun _ => false).map (fun _ => V.int 1) = [] := by simp
            rw [e] at hD
            refine ⟨by show 0 ≤ sizeLine; decide, fun p np => ?_⟩
            exact ⟨.list [], .list [], .lst (.inl (.inl ((Grows.new np) _ _ hD))) .nil, .lst (.inl (.inl upd_same)) .nil, rfl, rfl, q _ ((gt.trans g2).trans (Grows.new np))⟩)
      rcases hs with hs | hs
      · exact .inl ⟨_, rfl, a, rfl, ⟨_, gt.l hs⟩, main _ _ walk_list fun H' g => (gt.trans g).l hs⟩
      · exact .inr ⟨_, rfl, a, rfl, ⟨_, gt.t hs⟩, main _ _ walk_tup fun H' g => (gt.trans g).t hs⟩
    · refine ⟨x, tp, _, .type t, [.type "list", .type "tuple"], false, rfl, kt, .cons (.ty _) (.cons (.ty _) .nil), tyx_grows gt ty, NotSeq.kit k1 k2, false, rfl, if_neg_of (by decide) ?_⟩
      refine ⟨_, rfl, x, .ty "dict", .type t, .type "dict", false, rfl, .ty "dict", tyx_grows gt ty, kit_ty k3, false, rfl, if_neg_of (by decide) ?_⟩
      rcases k4 with e | ⟨e, k4⟩
      · exact ⟨_, rfl, rfl, _, rfl, if_pos_of (decide_eq_true e) (q H1 gt)⟩
      · refine ⟨_, rfl, rfl, _, rfl, if_neg_of (by rw [decide_eq_false e]; decide) ?_⟩
        refine ⟨_, rfl, by show 2 ≤ sizeLine; decide, fun tp2 ntp2 => ?_⟩
        exact ⟨x, tp2, _, .type t, [.type "int", .type "str"], true, rfl, upd_same, .cons (.ty _) (.cons (.ty _) .nil), tyx_grows (gt.trans (Grows.new ntp2)) ty, k4, q _ (gt.trans (Grows.new ntp2))⟩
end
structure GoodD (d : PyData) : Prop where
  lay : d.layable0 = true
  dep : d.depth ≤ 50
  short : d.intsShort 13 = true
  sh : d.showable = true
  nd : d.hasDict = false
theorem GoodD.can {d : PyData} (g : GoodD d) : d.canLay0 = true := by
  have h : (PyData.canLay0 d && decide (PyData.depth d ≤ 64) && decide (PyData.weight d ≤ 2 ^ 20)) = true := g.lay
  simp only [Bool.and_eq_true] at h
  exact h.1.1
theorem GoodD.shaped {d : PyData} (g : GoodD d) : SeqAt.shaped d = true := SeqAt.shaped_of_layable g.lay
section
variable {P : Program} {w : World} {K : PySem.W.Frag} {mg : Str → Option Value} {base : Heap}
theorem scIs : FnScope ["found", "due"] ["found", "due"] (defScope sIs) := ⟨rfl, rfl, rfl, by decide +kernel, rfl, by decide +kernel, by decide +kernel⟩
end
/-- what is told and what is due: one data -/
def spIsV (K : PySem.W.Frag) (k : Nat) : Sp := fun vs H Q _ => ∃ (x y : V) (d : PyData), vs = [x, y] ∧ Dp K H x d ∧ Dp K H y d ∧ GoodD d ∧ d.depth < k ∧ ∀ H', Grows H H' → Q (.bl true) H'
theorem good_str {z : Str} (h1 : PyData.strOk z = true) (h2 : z.length ≤ 100000) : GoodD (.str z) := by
  refine ⟨?_, Nat.zero_le _, rfl, rfl, rfl⟩
  unfold PyData.layable0
  have e1 : PyData.canLay0 (.str z) = true := h1
  have e2 : PyData.weight (.str z) = z.length := by rw [PyData.weight]; rfl
  rw [e1, e2]
  have : z.length ≤ 2 ^ 20 := by omega
  simp [this, PyData.depth]
theorem good_bool (b : Bool) : GoodD (.bool b) := by
  cases b <;> exact ⟨by decide +kernel, by decide +kernel, by decide +kernel, by decide +kernel, by decide +kernel⟩
section
variable {P : Program} {w : World} {K : PySem.W.Frag} {mg : Str → Option Value} {base : Heap}
theorem ok_isV {f f1 : Addr} {fd fd1 : FuncData} {k : Nat} (F : L2.Fun K "_law_is" "_law_is" sIs f fd) (B : Blt mg) (G : FnOk P w K mg base CX0 (k + 1) f1 fd1 ["value"] (spPlain K k)) (D : Def mg K "_law_plain" f1 fd1 ["value"]) : FnG P w K mg base (k + 2) f fd ["found", "due"] (spIsV K k) := by
  refine fng_ok F scIs (fun vs H Q E h => ?_) (fun cdv A outer s H vs Q E gA _ hr h => ⟨_,
    pss_one (ps_ret (pe_and (pe_call G hr (by rfl) D.g D.k D.b .nil pass0 (pa_cons (pv 0) pa_nil))
      (pe_and (pe_cmpR (op_eqD (by have := hr.un; show (A.deeper _).units + 64 < _; omega)) (pv 0) (pv 1) (nomark _))
      (pe_and (pe_cmpR (op_eqD (by have := hr.un; show (A.deeper _).units + 64 < _; omega)) (pv 1) (pv 0) (nomark _))
      (pe_one (pe_cmpR op_eq (pe_callB (cr_reprD gA (by have := hr.un; show (A.deeper _).units + 64 < _; omega)) (by rfl) B.repr (by decide +kernel) (pa_cons (pv 0) pa_nil)) (pe_callB (cr_reprD gA (by have := hr.un; show (A.deeper _).units + 64 < _; omega)) (by rfl) B.repr (by decide +kernel) (pa_cons (pv 1) pa_nil)) (nomark _))))))), ?_⟩)
  · obtain ⟨a, b, d, rfl, _⟩ := h
    rfl
  · obtain ⟨a, b, d, rfl, h1, h2, g, hk, q⟩ := h
    have fit : d.shown.length ≤ sizeLine := by
      have := PyData.shown_le_of_layable0 g.lay g.short
      exact Nat.le_trans this (by decide)
    refine ⟨_, rfl, _, d, rfl, h1, hk, fun H1 g1 => ⟨true, rfl, if_pos_of rfl ?_⟩⟩
    have k1 := g1.dp _ _ h1
    have k2 := g1.dp _ _ h2
    refine ⟨_, rfl, _, rfl, d, d, k1, k2, g.shaped, g.shaped, PyData.eqv d d, rfl, ?_⟩
    rw [PySem.SeqAt.eqv_refl d g.can]
    refine if_pos_of rfl ⟨_, rfl, _, rfl, d, d, k2, k1, g.shaped, g.shaped, PyData.eqv d d, rfl, ?_⟩
    rw [PySem.SeqAt.eqv_refl d g.can]
    refine if_pos_of rfl ⟨_, rfl, a, d, rfl, k1, g.sh, g.nd, g.dep, fit, _, rfl, b, d, rfl, k2, g.sh, g.nd, g.dep, fit, rfl, ?_⟩
    rw [decide_eq_true rfl]
    exact q H1 g1
end
end SWL
set_option Elab.async false
set_option linter.all false
set_option maxRecDepth 100000
set_option maxHeartbeats 4000000
namespace SWL
open PySem PySem.Spec PyProof.Rows L2 LamX
/-- no number -/
def NotNum (K : PySem.W.Frag) (H : Hp) (x : V) : Prop := (∃ b, x = .bl b) ∨ ∃ t : String, TyX K H x (.type t) ∧ kitB t "int" = some false
theorem NotNum.grows {K : PySem.W.Frag} {H H' : Hp} (g : Grows H H') {x : V} (h : NotNum K H x) : NotNum K H' x := h.imp id fun ⟨t, h1, h2⟩ => ⟨t, tyx_grows g h1, h2⟩
def spIsNum (K : PySem.W.Frag) : Sp := fun vs H Q _ => ∃ x lo hi, vs = [x, .int lo, .int hi] ∧ ((∃ i, x = .int i ∧ Q (.bl (decide (lo ≤ i ∧ i ≤ hi))) H) ∨ (NotNum K H x ∧ Q (.bl false) H))
section
variable {P : Program} {w : World} {K : PySem.W.Frag} {mg : Str → Option Value} {base : Heap}
theorem scIsNum : FnScope ["thing", "least", "most"] ["thing", "least", "most"] (defScope sIsNum) := ⟨rfl, rfl, rfl, by decide +kernel, rfl, by decide +kernel, by decide +kernel⟩
theorem ok_isNum {f : Addr} {fd : FuncData} (F : L2.Fun K "is_number" "is_number" sIsNum f fd) (B : Blt mg) : FnOk P w K mg base CX0 1 f fd ["thing", "least", "most"] (spIsNum K) := by
  refine F.ok scIsNum (fun vs H Q E h => ?_) (fun cdv A outer s H vs Q E hr h => ⟨_,
    pss_one (ps_ret (pe_and (pe_callB call_isi (by rfl) B.isi (by decide +kernel) (pa_cons (pv 0) (pa_cons (pe_bltn (u := .type "int") (v := .ty "int") (by rfl) B.int (by decide +kernel) rfl) pa_nil)))
      (pe_and (pe_not (pe_callB call_isi (by rfl) B.isi (by decide +kernel) (pa_cons (pv 0) (pa_cons (pe_bltn (u := .type "bool") (v := .ty "bool") (by rfl) B.bool (by decide +kernel) rfl) pa_nil))))
      (pe_one (pe_chain op_le op_le (pv 1) (pv 0) (pv 2)))))), ?_⟩)
  · obtain ⟨x, lo, hi, rfl, _⟩ := h
    rfl
  · obtain ⟨x, lo, hi, rfl, h⟩ := h
    rcases h with ⟨i, rfl, q⟩ | ⟨⟨b, rfl⟩ | ⟨t, ty, hk⟩, q⟩
    · refine ⟨_, rfl, .int i, .ty "int", .type "int", .type "int", true, rfl, .ty "int", .base (.int i), kit_ty (by decide +kernel), true, rfl, if_pos_of rfl ?_⟩
      refine ⟨_, rfl, .int i, .ty "bool", .type "int", .type "bool", false, rfl, .ty "bool", .base (.int i), kit_ty (by decide +kernel), false, rfl, true, rfl, if_pos_of rfl ?_⟩
      refine ⟨_, rfl, _, rfl, _, _, rfl, rfl, _, rfl, ?_⟩
      by_cases h1 : lo ≤ i
      · refine if_pos_of (decide_eq_true h1) ⟨_, rfl, _, _, rfl, rfl, ?_⟩
        rw [show decide (lo ≤ i ∧ i ≤ hi) = decide (i ≤ hi) from decide_eq_decide.mpr ⟨fun z => z.2, fun z => ⟨h1, z⟩⟩] at q
        exact q
      · refine if_neg_of (by rw [decide_eq_false h1]; decide) ?_
        rw [show decide (lo ≤ i ∧ i ≤ hi) = false from decide_eq_false fun z => h1 z.1] at q
        exact q
    · refine ⟨_, rfl, .bl b, .ty "int", .type "bool", .type "int", true, rfl, .ty "int", .base (.bl b), kit_ty (by decide +kernel), true, rfl, if_pos_of rfl ?_⟩
      exact ⟨_, rfl, .bl b, .ty "bool", .type "bool", .type "bool", true, rfl, .ty "bool", .base (.bl b), kit_ty (by decide +kernel), true, rfl, false, rfl, if_neg_of (by decide) q⟩
    · exact ⟨_, rfl, x, .ty "int", .type t, .type "int", false, rfl, .ty "int", ty, kit_ty hk, false, rfl, if_neg_of (by decide) q⟩
end
end SWL
set_option Elab.async false
set_option linter.all false
set_option maxRecDepth 100000
set_option maxHeartbeats 8000000
namespace SWL
open PySem PySem.Spec PyProof.Rows L2 LamX
/-! whether anything is a timely formula -/
def NotTup (K : PySem.W.Frag) (H : Hp) (x : V) : Prop := ∃ t : String, TyX K H x (.type t) ∧ kitB t "tuple" = some false
def ElAt (K : PySem.W.Frag) (H : Hp) (v : V) : El → Prop
  | .row xs => ∃ a, v = .ref a ∧ H a = some (.tup xs)
  | .no => NotTup K H v
def ThAt (K : PySem.W.Frag) (H : Hp) (v : V) : Th → Prop
  | .tup es => ∃ (p : Addr) (vs : List V), v = .ref p ∧ H p = some (.tup vs) ∧ vs.length = es.length ∧ ∀ (k : Nat) (x : V) (e : El), vs[k]? = some x → es[k]? = some e → ElAt K H x e
  | .no => NotTup K H v
theorem NotTup.grows {K : PySem.W.Frag} {H H' : Hp} (g : Grows H H') {x : V} (h : NotTup K H x) : NotTup K H' x := let ⟨t, h1, h2⟩ := h; ⟨t, tyx_grows g h1, h2⟩
theorem ElAt.grows {K : PySem.W.Frag} {H H' : Hp} (g : Grows H H') {v : V} {e : El} (h : ElAt K H v e) : ElAt K H' v e := by
  cases e with
  | row xs => obtain ⟨a, h1, h2⟩ := h; exact ⟨a, h1, g _ _ h2⟩
  | no => exact NotTup.grows g h
theorem ThAt.grows {K : PySem.W.Frag} {H H' : Hp} (g : Grows H H') {v : V} {e : Th} (h : ThAt K H v e) : ThAt K H' v e := by
  cases e with
  | tup es => obtain ⟨p, vs, h1, h2, h3, h4⟩ := h; exact ⟨p, vs, h1, g _ _ h2, h3, fun k x e hx he => (h4 k x e hx he).grows g⟩
  | no => exact NotTup.grows g h
def forms (z : Str) : Option Nat := if z = "letter" then some 0 else sizeW z
structure FormsK (K : PySem.W.Frag) (w : World) (mg : Str → Option Value) (d : Addr) : Prop where
  g : mg "FORMS" = some (.ref d)
  kd : ∃ es n, KDict K w d es n
  all : ∀ z ∈ wordsL, (forms z = none ∧ PySem.W.nsIn K d z = some none) ∨ ∃ (k : Nat) (t : Tok), forms z = some k ∧ PySem.W.nsIn K d z = some (some (.int ((k : Nat) : Int) t))
def flD : V → PyData
  | .int i => .int i
  | .str z => .str z
  | .bl b => .bool b
  | _ => .none
theorem fl_dp {K : PySem.W.Frag} {H : Hp} : ∀ {xs : List V}, (∀ x ∈ xs, Flat x) → DpAll K H xs (xs.map flD)
  | [], _ => .nil
  | x :: xs, h => by
    refine .cons ?_ (fl_dp fun y hy => h y (List.mem_cons_of_mem _ hy))
    have := h x List.mem_cons_self
    cases x with
    | int i => exact .int i
    | str z => exact .str z
    | bl b => exact .bl b
    | non => exact .non
    | ref a => exact this.elim
    | ty a => exact this.elim
    | byt a => exact this.elim
    | flt a => exact this.elim
theorem fl_can : ∀ {xs : List V}, (∀ z, V.str z ∈ xs → z.length ≤ 1000 ∧ PyData.strOk z = true) → PyData.canLayAll0 (xs.map flD) = true ∧ PyData.depthAll (xs.map flD) = 0
  | [], _ => ⟨rfl, rfl⟩
  | x :: xs, h => by
    obtain ⟨h1, h2⟩ := fl_can (xs := xs) fun z hz => h z (List.mem_cons_of_mem _ hz)
    have e1 : PyData.canLay0 (flD x) = true := by
      cases x with
      | str z => exact (h z List.mem_cons_self).2
      | _ => rfl
    have e2 : PyData.depth (flD x) = 0 := by cases x <;> rfl
    rw [List.map_cons, PyData.canLayAll0, PyData.depthAll, e1, h1, e2, h2]
    exact ⟨rfl, rfl⟩
theorem fl_shaped {xs : List V} (h : ∀ z, V.str z ∈ xs → z.length ≤ 1000 ∧ PyData.strOk z = true) : SeqAt.shaped (.tuple (xs.map flD)) = true := by
  obtain ⟨h1, h2⟩ := fl_can h
  show (PyData.canLay0 (.tuple (xs.map flD)) && decide (PyData.depth (.tuple (xs.map flD)) ≤ 64)) = true
  rw [PyData.canLay0, PyData.depth, h1, h2]
  rfl
theorem flat_ty {K : PySem.W.Frag} {H : Hp} {x : V} (h : Flat x) : (∃ z, x = .str z) ∨ ((∀ z, x ≠ .str z) ∧ NotStr K H x) := by
  cases x with
  | str z => exact .inl ⟨z, rfl⟩
  | int i => exact .inr ⟨(fun z e => by cases e), "int", .base (.int i), by decide +kernel⟩
  | bl b => exact .inr ⟨(fun z e => by cases e), "bool", .base (.bl b), by decide +kernel⟩
  | non => exact .inr ⟨(fun z e => by cases e), "NoneType", .base .non, by decide +kernel⟩
  | ref a => exact h.elim
  | ty a => exact h.elim
  | byt a => exact h.elim
  | flt a => exact h.elim
theorem flat_num {K : PySem.W.Frag} {H : Hp} {x : V} (h : Flat x) (at_ : Nat) : (∃ i, x = .int i ∧ numB at_ x = decide (0 ≤ i ∧ i ≤ (at_ : Int) - 1)) ∨ (NotNum K H x ∧ numB at_ x = false) := by
  cases x with
  | int i => exact .inl ⟨i, rfl, rfl⟩
  | str z => exact .inr ⟨.inr ⟨"str", .base (.str z), by decide +kernel⟩, rfl⟩
  | bl b => exact .inr ⟨.inl ⟨b, rfl⟩, rfl⟩
  | non => exact .inr ⟨.inr ⟨"NoneType", .base .non, by decide +kernel⟩, rfl⟩
  | ref a => exact h.elim
  | ty a => exact h.elim
  | byt a => exact h.elim
  | flt a => exact h.elim
def spTRow (K : PySem.W.Frag) : Sp := fun vs H Q _ => ∃ (ls : Str) (v : V) (n : Nat) (e : El), vs = [.str ls, v, .int ((n : Nat) : Int)] ∧ ElAt K H v e ∧ ElIn e ∧ n ≤ 6000 ∧ ∀ H', Grows H H' → Q (.bl (okEl ls n e)) H'
abbrev NR : List Str := ["letters", "thing", "at", "word", "rest", "one"]
section
variable {P : Program} {w : World} {K : PySem.W.Frag} {mg : Str → Option Value} {base : Heap}
end
end SWL
set_option Elab.async false
set_option linter.all false
set_option maxRecDepth 100000
set_option maxHeartbeats 8000000
namespace SWL
open PySem PySem.Spec PyProof.Rows L2 LamX
/-! is_timely, need_timely, timely_depth, truth_of -/
theorem cutV_from (xs : List V) (k : Nat) : cutV xs (some ((k : Nat) : Int)) none = xs.drop k := by
  have h1 : HT.sIx xs.length 0 (some ((k : Nat) : Int)) = min k xs.length := HT.sIx_nat _ _ k
  have h2 : HT.sIx xs.length xs.length none = xs.length := rfl
  unfold cutV
  rw [h1, h2]
  by_cases h : k ≤ xs.length
  · rw [Nat.min_eq_left h]
    exact List.take_of_length_le (by rw [List.length_drop]; omega)
  · rw [Nat.min_eq_right (by omega), List.drop_eq_nil_of_le (by omega), List.drop_eq_nil_of_le (by omega), List.take_nil]
theorem cutV_to (xs : List V) (k : Nat) : cutV xs none (some ((k : Nat) : Int)) = xs.take k := by
  have h1 : HT.sIx xs.length 0 none = 0 := rfl
  have h2 : HT.sIx xs.length xs.length (some ((k : Nat) : Int)) = min k xs.length := HT.sIx_nat _ _ k
  unfold cutV
  rw [h1, h2, List.drop_zero, Nat.sub_zero]
  by_cases h : k ≤ xs.length
  · rw [Nat.min_eq_left h]
  · rw [Nat.min_eq_right (by omega), List.take_of_length_le (by omega), List.take_of_length_le (by omega)]
theorem cutV_mid (xs : List V) (k : Nat) : cutV xs (some 1) (some ((k : Nat) : Int)) = (xs.take k).drop 1 := by
  have h1 : HT.sIx xs.length 0 (some 1) = min 1 xs.length := HT.sIx_nat _ _ 1
  have h2 : HT.sIx xs.length xs.length (some ((k : Nat) : Int)) = min k xs.length := HT.sIx_nat _ _ k
  unfold cutV
  rw [h1, h2, List.drop_take]
  cases xs with
  | nil => simp
  | cons x xs =>
    have e1 : min 1 (x :: xs).length = 1 := by simp only [List.length_cons]; omega
    rw [e1]
    by_cases h : k ≤ (x :: xs).length
    · rw [Nat.min_eq_left h]
    · rw [Nat.min_eq_right (by omega), List.take_of_length_le (by rw [List.length_drop]; exact Nat.le_refl _), List.take_of_length_le (by rw [List.length_drop]; omega)]
/-- the rest of a tuple -/
theorem go_rest {K : PySem.W.Frag} {H : Hp} {Q : VK} {a : Addr} {x : V} {rest : List V} (h : H a = some (.tup (x :: rest))) (q : ∀ p, H p = none → Q (.ref p) (upd H p (.tup rest))) : rSlT K (.ref a) (some 1) none H Q := by
  refine ⟨a, _, rfl, .inl (.inl h), fun c => ?_, fun p np => ?_⟩
  · have h1 : HT.sIx (x :: rest).length 0 (some 1) = min 1 (x :: rest).length := HT.sIx_nat _ _ 1
    have h2 := c.1
    rw [h1] at h2
    simp only [List.length_cons] at h2
    omega
  · have e : cutV (x :: rest) (some 1) none = rest := cutV_from (x :: rest) 1
    rw [e]
    exact q p np
def ThIn : Th → Prop
  | .tup es => ∀ e ∈ es, ElIn e
  | .no => True
def FormAt (H : Hp) (v : V) (F : List Ro) : Prop := ∃ (p : Addr) (as : List Addr), v = .ref p ∧ H p = some (.tup (as.map V.ref)) ∧ as.length = F.length ∧ ∀ (k : Nat) (a : Addr) (r : Ro), as[k]? = some a → F[k]? = some r → H a = some (.tup r.vs)
theorem FormAt.grows {H H' : Hp} (g : Grows H H') {v : V} {F : List Ro} (h : FormAt H v F) : FormAt H' v F := by
  obtain ⟨p, as, h1, h2, h3, h4⟩ := h
  exact ⟨p, as, h1, g _ _ h2, h3, fun k a r ha hr => g _ _ (h4 k a r ha hr)⟩
theorem FormAt.th {K : PySem.W.Frag} {H : Hp} {v : V} {F : List Ro} (h : FormAt H v F) : ThAt K H v (.tup (rowsEl F)) := by
  obtain ⟨p, as, h1, h2, h3, h4⟩ := h
  refine ⟨p, _, h1, h2, by unfold rowsEl; rw [List.length_map, List.length_map, h3], fun k x e hx he => ?_⟩
  unfold rowsEl at he
  rw [List.getElem?_map] at hx he
  cases ha : as[k]? with
  | none => rw [ha] at hx; cases hx
  | some a =>
    cases hr : F[k]? with
    | none => rw [hr] at he; cases he
    | some r =>
      rw [ha] at hx
      rw [hr] at he
      obtain rfl := Option.some.inj hx
      obtain rfl := Option.some.inj he
      exact ⟨a, rfl, h4 k a r ha hr⟩
theorem thIn_rows {ls : Str} {F : List Ro} (hs : ∀ c ∈ ls.cps.toList, c < 0x110000) (ok : FOk ls F) : ThIn (.tup (rowsEl F)) := fun e he => by
  obtain ⟨r, hr, rfl⟩ := List.mem_map.mp he
  obtain ⟨k, hk⟩ := List.getElem?_of_mem hr
  exact elIn_row hs (ok k r hk)
def BadL (K : PySem.W.Frag) (H : Hp) (x : V) : Prop := NotStr K H x ∨ ∃ z, x = .str z ∧ z.length ≤ sizeLine ∧ okLetters z = false
theorem BadL.grows {K : PySem.W.Frag} {H H' : Hp} (g : Grows H H') {x : V} (h : BadL K H x) : BadL K H' x := h.imp (fun h => h.grows g) id
/-- the letters told, or NoLetters -/
def LetOr (K : PySem.W.Frag) (CN : Addr) (H : Hp) (x : V) (E : XK) (R : Str → Prop) : Prop := (BadL K H x ∧ ∀ H', Grows H H' → E (.ref CN) none H') ∨ ∃ ls, x = .str ls ∧ ls.length ≤ sizeLine ∧ okLetters ls = true ∧ R ls
def spTimely (K : PySem.W.Frag) (CN : Addr) : Sp := fun vs H Q E => ∃ x v, vs = [x, v] ∧ LetOr K CN H x E fun ls => ∃ th, ThAt K H v th ∧ ThIn th ∧ ∀ H', Grows H H' → Q (.bl (okTh ls th)) H'
def spNeedT (K : PySem.W.Frag) (CN CF : Addr) : Sp := fun vs H Q E => ∃ x v, vs = [x, v] ∧ LetOr K CN H x E fun ls => ∃ th, ThAt K H v th ∧ ThIn th ∧ ((okTh ls th = false ∧ ∀ H', Grows H H' → E (.ref CF) none H') ∨ (okTh ls th = true ∧ ∀ H', Grows H H' → Q .non H'))
abbrev NT : List Str := ["letters", "thing", "at", "row"]
section
variable {P : Program} {w : World} {K : PySem.W.Frag} {mg : Str → Option Value} {base : Heap}
end
end SWL
set_option Elab.async false
set_option linter.all false
set_option maxRecDepth 100000
set_option maxHeartbeats 8000000
namespace SWL
open PySem PySem.Spec PyProof.Rows L2 LamX
/-! timely_depth, truth_of -/
structure TurnedK (K : PySem.W.Frag) (mg : Str → Option Value) (d : Addr) : Prop where
  g : mg "TURNED" = some (.ref d)
  t : ∀ H : Hp, SqT K H d [.str "later", .str "earlier"]
/-- the word of a row -/
def Ro.word : Ro → Str
  | .tru => "true"
  | .let_ _ => "letter"
  | .nt _ => "not"
  | .an _ _ => "and"
  | .or_ _ _ => "or"
  | .la _ => "later"
  | .ea _ => "earlier"
def Ro.rest : Ro → List V
  | .tru => []
  | .let_ c => [.str (sg c)]
  | .nt i => [nV i]
  | .an i j => [nV i, nV j]
  | .or_ i j => [nV i, nV j]
  | .la i => [nV i]
  | .ea i => [nV i]
theorem Ro.vs_eq (r : Ro) : r.vs = .str r.word :: r.rest := by cases r <;> rfl
theorem Ro.word0 (r : Ro) : atI r.vs 0 = some (.str r.word) := by
  rw [r.vs_eq]
  exact atI_nat (j := 0) rfl
theorem Ro.notLetter {r : Ro} (h : r.word ≠ "letter") : r.rest = r.refs.map nV := by
  cases r with
  | let_ c => exact absurd rfl h
  | _ => rfl
theorem Ro.letter {r : Ro} (h : r.word = "letter") : r.refs = [] := by
  cases r with
  | let_ c => rfl
  | tru => rfl
  | nt i => exact absurd h (show ¬ ("not" : Str) = "letter" by decide +kernel)
  | an i j => exact absurd h (show ¬ ("and" : Str) = "letter" by decide +kernel)
  | or_ i j => exact absurd h (show ¬ ("or" : Str) = "letter" by decide +kernel)
  | la i => exact absurd h (show ¬ ("later" : Str) = "letter" by decide +kernel)
  | ea i => exact absurd h (show ¬ ("earlier" : Str) = "letter" by decide +kernel)
theorem Ro.turned_in (r : Ro) : inV (.str r.word) [.str "later", .str "earlier"] = r.turned := by
  cases r with
  | tru => exact (by decide +kernel : inV (.str "true") [.str "later", .str "earlier"] = false)
  | let_ c => exact (by decide +kernel : inV (.str "letter") [.str "later", .str "earlier"] = false)
  | nt i => exact (by decide +kernel : inV (.str "not") [.str "later", .str "earlier"] = false)
  | an i j => exact (by decide +kernel : inV (.str "and") [.str "later", .str "earlier"] = false)
  | or_ i j => exact (by decide +kernel : inV (.str "or") [.str "later", .str "earlier"] = false)
  | la i => exact (by decide +kernel : inV (.str "later") [.str "later", .str "earlier"] = true)
  | ea i => exact (by decide +kernel : inV (.str "earlier") [.str "later", .str "earlier"] = true)
theorem Ro.refs_len (r : Ro) : r.refs.length ≤ 2 := by cases r <;> simp [Ro.refs]
def spTDepth (K : PySem.W.Frag) (CN CF : Addr) : Sp := fun vs H Q E => ∃ x v, vs = [x, v] ∧ LetOr K CN H x E fun ls => (∃ th, ThAt K H v th ∧ ThIn th ∧ okTh ls th = false ∧ ∀ H', Grows H H' → E (.ref CF) none H') ∨
  ∃ F : List Ro, FormAt H v F ∧ FOk ls F ∧ 1 ≤ F.length ∧ F.length ≤ 100 ∧ (∀ c ∈ ls.cps.toList, c < 0x110000) ∧ ∀ H', Grows H H' → Q (nV ((deps F).getD (F.length - 1) 0)) H'
theorem mx_int {l : List Nat} {m : Int} (hm : m ∈ (l ++ [0]).map (fun i => ((i : Nat) : Int))) (hy : ∀ y ∈ (l ++ [0]).map (fun i => ((i : Nat) : Int)), y ≤ m) : m = ((mx l : Nat) : Int) := by
  obtain ⟨k, hk, rfl⟩ := List.mem_map.mp hm
  have e : mx l = k := mx_eq hk fun y h => by
    have := hy _ (List.mem_map.mpr ⟨y, h, rfl⟩)
    omega
  rw [e]
theorem walk_tupM {α : Type} {K : PySem.W.Frag} {a : Addr} {I : List α} {gv : α → V} : Walk (Itt K a) I.length (fun H => SqT K H a (I.map gv)) (YAt (I.map gv)) := by
  have := walk_tup (K := K) (a := a) (xs := I.map gv)
  rwa [List.length_map] at this
theorem walk_listM {α : Type} {K : PySem.W.Frag} {a : Addr} {I : List α} {gv : α → V} : Walk (Itl K a) I.length (fun H => SqL K H a (I.map gv)) (YAt (I.map gv)) := by
  have := walk_list (K := K) (a := a) (xs := I.map gv)
  rwa [List.length_map] at this
abbrev ND : List Str := ["letters", "formula", "deep", "row", "below", "elder"]
section
variable {P : Program} {w : World} {K : PySem.W.Frag} {mg : Str → Option Value} {base : Heap}
/-! truth_of -/
def tOf (r : Ro) (lt : Option Nat) (tv : Nat → Bool) (turned : Bool) : Bool := match r with
  | .tru => true
  | .let_ c => decide (lt = some c)
  | .nt i => !tv i
  | .an i j => tv i && tv j
  | .or_ i j => tv i || tv j
  | .la _ => turned
  | .ea _ => turned
def ltV : Option Nat → V
  | none => .non
  | some c => .str (sg c)
def spTruth : Sp := fun vs H Q _ => ∃ (a d : Addr) (r : Ro) (lt : Option Nat) (t : Bool) (kvs : List (Key × V)) (tv : Nat → Bool), vs = [.ref a, ltV lt, .ref d, .bl t] ∧ H a = some (.tup r.vs) ∧ H d = some (.dK kvs) ∧ (∀ i ∈ r.refs, valV kvs (.inl ((i : Nat) : Int)) = some (.bl (tv i))) ∧ Q (.bl (tOf r lt tv t)) H
end
end SWL
set_option Elab.async false
set_option linter.all false
set_option maxRecDepth 100000
set_option maxHeartbeats 8000000
namespace SWL
open PySem PySem.Spec PyProof.Rows L2 LamX
/-! timely_says -/
def kw3 {α : Type} : List α → List α → List α
  | [a, b], [c] => [a, b, c]
  | _, _ => []
def BadW (K : PySem.W.Frag) (H : Hp) (ls : Str) (x : V) : Prop := NotStr K H x ∨ ∃ z, x = .str z ∧ z.length ≤ sizeLine ∧ okWord ls z 40 = false
theorem BadW.grows {K : PySem.W.Frag} {H H' : Hp} (g : Grows H H') {ls : Str} {x : V} (h : BadW K H ls x) : BadW K H' ls x := h.imp (fun h => h.grows g) id
/-- lines of truths, laid -/
structure TabAt (H : Hp) (T : Addr) (tab : List (List Bool)) (ls : List Addr) : Prop where
  at_ : H T = some (.lst (ls.map V.ref))
  len : ls.length = tab.length
  row : ∀ (k : Nat) (l : Addr) (bs : List Bool), ls[k]? = some l → tab[k]? = some bs → H l = some (.lst (bs.map V.bl))
  off : ∀ l ∈ ls, l ≠ T
theorem TabAt.but {H H' : Hp} {T L : Addr} {tab : List (List Bool)} {ls : List Addr} (t : TabAt H T tab ls) (b : But H H' L L) (h1 : T ≠ L) (h2 : L ∉ ls) : TabAt H' T tab ls :=
  ⟨b _ _ t.at_ h1 h1, t.len, fun k l bs hl hb => b _ _ (t.row k l bs hl hb) (fun e => h2 (e ▸ List.mem_of_getElem? hl)) (fun e => h2 (e ▸ List.mem_of_getElem? hl)), t.off⟩
theorem TabAt.line {H : Hp} {T : Addr} {tab : List (List Bool)} {ls : List Addr} (t : TabAt H T tab ls) {i : Nat} (hi : i < tab.length) : ∃ l, atI (ls.map V.ref) (i : Int) = some (.ref l) ∧ H l = some (.lst ((tab.getD i []).map V.bl)) := by
  obtain ⟨l, hl⟩ : ∃ l, ls[i]? = some l := ⟨_, List.getElem?_eq_getElem (by have := t.len; omega)⟩
  refine ⟨l, atI_nat (by rw [List.getElem?_map, hl]; rfl), ?_⟩
  have e : tab[i]? = some (tab.getD i []) := by
    rw [List.getD_eq_getElem?_getD, List.getElem?_eq_getElem hi]
    rfl
  exact t.row i l _ hl e
theorem TabAt.snoc {H : Hp} {T L : Addr} {tab : List (List Bool)} {ls : List Addr} {bs : List Bool} (t : TabAt H T tab ls) (hL : H L = some (.lst (bs.map V.bl))) (n : L ≠ T) : TabAt (upd H T (.lst (ls.map V.ref ++ [.ref L]))) T (tab ++ [bs]) (ls ++ [L]) := by
  refine ⟨by rw [upd_same, List.map_append]; rfl, by rw [List.length_append, List.length_append, t.len]; rfl, fun k l cs hl hc => ?_, fun l hl => ?_⟩
  · by_cases c : k < ls.length
    · rw [List.getElem?_append_left c] at hl
      rw [List.getElem?_append_left (by have := t.len; omega)] at hc
      rw [upd_ne (t.off l (List.mem_of_getElem? hl))]
      exact t.row k l cs hl hc
    · have h0 : k - ls.length = 0 := by
        have := (List.getElem?_eq_some_iff.mp hl).1
        rw [List.length_append, List.length_singleton] at this
        omega
      have tl := t.len
      rw [List.getElem?_append_right (by omega), h0] at hl
      rw [List.getElem?_append_right (by omega), show k - tab.length = 0 by omega] at hc
      obtain rfl : L = l := Option.some.inj hl
      obtain rfl : bs = cs := Option.some.inj hc
      rw [upd_ne n]
      exact hL
  · rcases List.mem_append.mp hl with h | h
    · exact t.off l h
    · rw [List.mem_singleton.mp h]
      exact n
/-- the cell told -/
theorem cell_at {H : Hp} {T : Addr} {tab : List (List Bool)} {ls : List Addr} {m i p : Nat} (t : TabAt H T tab ls) (hi : i < tab.length) (hp : p < m) (hm : ∀ l ∈ tab, l.length = m) : ∃ l, atI (ls.map V.ref) (i : Int) = some (.ref l) ∧ H l = some (.lst ((tab.getD i []).map V.bl)) ∧ atI ((tab.getD i []).map V.bl) (p : Int) = some (.bl (cellB tab i p)) := by
  obtain ⟨l, h1, h2⟩ := t.line hi
  refine ⟨l, h1, h2, atI_nat ?_⟩
  have hl : (tab.getD i []).length = m := by
    rw [List.getD_eq_getElem?_getD, List.getElem?_eq_getElem hi]
    exact hm _ (List.getElem_mem hi)
  unfold cellB
  rw [List.getElem?_map, List.getElem?_eq_getElem (by omega), List.getD_eq_getElem?_getD (l := tab.getD i []), List.getElem?_eq_getElem (by omega)]
  rfl
/-- a line of a table as it is made -/
def lineTo (w : Wl) (tab : List (List Bool)) (r : Ro) (p : Nat) : List Bool := (List.range p).map fun q => rowAt tab w q r
theorem lineTo_succ (w : Wl) (tab : List (List Bool)) (r : Ro) (p : Nat) : lineTo w tab r (p + 1) = lineTo w tab r p ++ [rowAt tab w p r] := by
  unfold lineTo
  rw [List.range_succ, List.map_append]
  rfl
theorem lineTo_len (w : Wl) (tab : List (List Bool)) (r : Ro) (p : Nat) : (lineTo w tab r p).length = p := by
  unfold lineTo
  rw [List.length_map, List.length_range]
/-- the letter at a place, None ahead of all -/
def ltAt (w : Wl) (p : Nat) : Option Nat := if p = 0 then none else w[p - 1]?
def turnB (tab : List (List Bool)) (p : Nat) : Ro → Bool
  | .la i => ((tab.getD i []).drop (p + 1)).any id
  | .ea i => (((tab.getD i []).take p).drop 1).any id
  | _ => false
theorem tOf_row (tab : List (List Bool)) (w : Wl) (p : Nat) (r : Ro) : tOf r (ltAt w p) (fun i => cellB tab i p) (turnB tab p r) = rowAt tab w p r := by
  cases r with
  | let_ c =>
    show decide (ltAt w p = some c) = (decide (0 < p) && decide (w[p - 1]? = some c))
    unfold ltAt
    by_cases h : p = 0
    · rw [if_pos h, decide_eq_false (by omega : ¬ 0 < p), Bool.false_and]
      exact decide_eq_false (fun e => by cases e)
    · rw [if_neg h, decide_eq_true (by omega : 0 < p), Bool.true_and]
  | _ => rfl
/-- what is done with a formula and a word -/
def spTSays (K : PySem.W.Frag) (CN CF CW : Addr) : Sp := fun vs H Q E => ∃ x v y, vs = [x, v, y] ∧ LetOr K CN H x E fun ls => (∃ th, ThAt K H v th ∧ ThIn th ∧ okTh ls th = false ∧ ∀ H', Grows H H' → E (.ref CF) none H') ∨
  ∃ F : List Ro, FormAt H v F ∧ FOk ls F ∧ 1 ≤ F.length ∧ F.length ≤ 100 ∧ (∀ c ∈ ls.cps.toList, c < 0x110000) ∧ ((BadW K H ls y ∧ ∀ H', Grows H H' → E (.ref CW) none H') ∨
    ∃ z, y = .str z ∧ z.length ≤ 40 ∧ okWord ls z 40 = true ∧ ∀ H', Grows H H' → Q (.bl (saysB F z.cps.toList)) H')
abbrev NS : List Str := ["letters", "formula", "word", "places", "table", "row", "line", "at", "letter", "truths", "turned", "elder"]
theorem any_q {K : PySem.W.Frag} {a : Addr} {bs : List Bool} {H : Hp} {Q : VK} (h : H a = some (.lst (bs.map V.bl))) (q : Q (.bl (bs.any id)) H) : rAny K [.ref a] H Q := ⟨a, bs, rfl, .inl (.inl h), q⟩
theorem atI_neg1 {xs : List V} {v : V} (h : xs[xs.length - 1]? = some v) : atI xs (-1) = some v := by
  rcases List.eq_nil_or_concat xs with e | ⟨ys, y, e⟩
  · rw [e] at h
    cases h
  · rw [List.concat_eq_append] at e
    subst e
    rw [List.length_append, List.length_singleton, Nat.add_sub_cancel, List.getElem?_append_right (Nat.le_refl _), Nat.sub_self] at h
    rw [← Option.some.inj h]
    exact atI_last _ _
theorem places_at (z : Str) {p : Nat} (hp : p < z.cps.toList.length + 1) : (V.non :: signsV z)[p]? = some (ltV (ltAt z.cps.toList p)) := by
  unfold ltAt
  cases p with
  | zero => rfl
  | succ p =>
    rw [if_neg (by omega), List.getElem?_cons_succ, Nat.add_sub_cancel]
    unfold signsV
    rw [List.getElem?_map]
    have hp' : p < z.cps.toList.length := by omega
    rw [List.getElem?_eq_getElem hp']
    rfl
section
variable {P : Program} {w : World} {K : PySem.W.Frag} {mg : Str → Option Value} {base : Heap}
end
end SWL
set_option Elab.async false
set_option linter.all false
set_option maxRecDepth 100000
set_option maxHeartbeats 8000000
namespace SWL
open PySem PySem.Spec PyProof.Rows L2 LamX
/-! the word for what was caught, of seven classes -/
def WordIs (K : PySem.W.Frag) (D : Addr) (R : Str → Prop) : List (Addr × Str) → Prop
  | [] => False
  | (C, z) :: cs => (PySem.W.kitOne K (.ref D) (.ref C) = some true ∧ R z) ∨ (PySem.W.kitOne K (.ref D) (.ref C) = some false ∧ WordIs K D R cs)
/-- the classes asked, in their order -/
structure Cs7 where
  G : Addr
  N : Addr
  W : Addr
  M : Addr
  Y : Addr
  I : Addr
  F : Addr
def Cs7.list (c : Cs7) : List (Addr × Str) := [(c.G, "great"), (c.N, "letters"), (c.W, "word"), (c.M, "number"), (c.Y, "way"), (c.I, "swing"), (c.F, "formula")]
structure Mg7 (mg : Str → Option Value) (c : Cs7) : Prop where
  G : mg "TooGreat" = some (.ref c.G)
  N : mg "NoLetters" = some (.ref c.N)
  W : mg "NoWord" = some (.ref c.W)
  M : mg "NoNumber" = some (.ref c.M)
  Y : mg "NoWay" = some (.ref c.Y)
  I : mg "NoSwing" = some (.ref c.I)
  F : mg "NoFormula" = some (.ref c.F)
def TWord (K : PySem.W.Frag) (CS : Addr) (c : Cs7) : (XK → Hp → VK → Prop) → Hp → VK → Prop := fun tl H Q => ∀ Qf : VK,
  tl (fun cls d H' => PySem.W.exmOne K cls (.ref CS) = some true ∧ ∃ D, cls = .ref D ∧ d = none ∧ ExcC K D ∧ WordIs K D (fun z => ∀ a, H' a = none → Q (.str z) (upd H' a (.ext (Kept (.ref D) none a)))) c.list) H Qf
section
variable {X : Cx}
theorem scWord : FnScope ["action", "caught", "error"] ["action"] (defScope sWord) := ⟨rfl, rfl, rfl, by decide +kernel, rfl, by decide +kernel, by decide +kernel⟩
theorem word_gives {q : Str} {g CS : Addr} {c : Cs7} {cdg : Value} (isi : X.mg "isinstance" = none) (mS : X.mg "SwingError" = some (.ref CS)) (m : Mg7 X.mg c) :
    GivesTo X ["action", "caught", "error"] "_law_word" (defScope sWord) g cdg (defBody sWord) "action" q (TWord X.K CS c) := by
  intro f c' s H Q tl act hc h
  refine ⟨_, pss_cons (ps_set (X := (cxOf C8.CX0 X.prog X.w X.K X.mg X.base ["action", "caught", "error"] "_law_word" (defScope sWord) g cdg X.A X.stack s H C8.E0).nox) (i := 1) scWord.nd rfl (Or.inl rfl) pe_non)
    (pss_cons (ps_try_keep (X := (cxOf C8.CX0 X.prog X.w X.K X.mg X.base ["action", "caught", "error"] "_law_word" (defScope sWord) g cdg X.A X.stack s H C8.E0).nox) (c := .ref CS) (i := 2)
      (tb := fun W D σ H => ∃ Ech : XK, (∀ cls d σ' H', Ech cls d H' → W cls d σ' H') ∧ σ[0]? = some (some (.ref f)) ∧ H c' = some (CodeO c' q) ∧ tl Ech H fun _ H' => D.nx σ H')
      rfl rfl scWord.nd rfl rfl ⟨rfl, by decide, .inl mS⟩ (fun W pn xe tk _ => ?_) (fun a' oe cls d pn _ _ => pss_one (ps_set (i := 1) scWord.nd rfl (Or.inl rfl) (pv 2))))
    (pss_cons (ps_if (pt_truth (pe_callB call_isKept (by rfl) isi (by decide +kernel) (pa_cons (pv 1) (pa_cons (pe_glob (v := .ref c.G) (by rfl) m.G rfl) pa_nil))) (by intro _; rfl)) (pss_one (ps_ret pe_str)) pss_nil)
    (pss_cons (ps_if (pt_truth (pe_callB call_isKept (by rfl) isi (by decide +kernel) (pa_cons (pv 1) (pa_cons (pe_glob (v := .ref c.N) (by rfl) m.N rfl) pa_nil))) (by intro _; rfl)) (pss_one (ps_ret pe_str)) pss_nil)
    (pss_cons (ps_if (pt_truth (pe_callB call_isKept (by rfl) isi (by decide +kernel) (pa_cons (pv 1) (pa_cons (pe_glob (v := .ref c.W) (by rfl) m.W rfl) pa_nil))) (by intro _; rfl)) (pss_one (ps_ret pe_str)) pss_nil)
    (pss_cons (ps_if (pt_truth (pe_callB call_isKept (by rfl) isi (by decide +kernel) (pa_cons (pv 1) (pa_cons (pe_glob (v := .ref c.M) (by rfl) m.M rfl) pa_nil))) (by intro _; rfl)) (pss_one (ps_ret pe_str)) pss_nil)
    (pss_cons (ps_if (pt_truth (pe_callB call_isKept (by rfl) isi (by decide +kernel) (pa_cons (pv 1) (pa_cons (pe_glob (v := .ref c.Y) (by rfl) m.Y rfl) pa_nil))) (by intro _; rfl)) (pss_one (ps_ret pe_str)) pss_nil)
    (pss_cons (ps_if (pt_truth (pe_callB call_isKept (by rfl) isi (by decide +kernel) (pa_cons (pv 1) (pa_cons (pe_glob (v := .ref c.I) (by rfl) m.I rfl) pa_nil))) (by intro _; rfl)) (pss_one (ps_ret pe_str)) pss_nil)
    (pss_cons (ps_if (pt_truth (pe_callB call_isKept (by rfl) isi (by decide +kernel) (pa_cons (pv 1) (pa_cons (pe_glob (v := .ref c.F) (by rfl) m.F rfl) pa_nil))) (by intro _; rfl)) (pss_one (ps_ret pe_str)) pss_nil)
    pss_no)))))))), ?_⟩
  · refine ⟨fun pins s' σ H' D I h' => ?_⟩
    obtain ⟨Ech, hW, h1, h2, h3⟩ := h'
    have hp := fun p1 p2 => act W pn xe Ech p1 p2 tk hW
    exact (pss_one (ps_expr (hp _ _) (by rfl))).run pins s' σ H' D I ⟨h1, h2, h3⟩
  · refine ⟨fun cls d H' => PySem.W.exmOne X.K cls (.ref CS) = some true ∧ ∃ D, cls = .ref D ∧ d = none ∧ ExcC X.K D ∧ WordIs X.K D (fun z => ∀ a, H' a = none → Q (.str z) (upd H' a (.ext (Kept (.ref D) none a)))) c.list, ?_, rfl, hc, h _⟩
    rintro cls d σ' H' ⟨e1, D, rfl, rfl, EC, wd⟩
    refine ⟨e1, fun hl a' na => ?_⟩
    obtain ⟨s0, s1, s2, rfl⟩ : ∃ s0 s1 s2, σ' = [s0, s1, s2] := by
      match σ', hl with
      | [x, y, z], _ => exact ⟨x, y, z, rfl⟩
    refine ⟨_, rfl, fun na' => ?_⟩
    rcases wd with ⟨k, q⟩ | ⟨k, wd⟩
    · exact ⟨_, rfl, a', D, .ref c.G, .ref c.G, true, rfl, upd_same, EC, (fun u r => r), k, true, rfl, if_pos_of rfl (q a' na')⟩
    refine ⟨_, rfl, a', D, .ref c.G, .ref c.G, false, rfl, upd_same, EC, (fun u r => r), k, false, rfl, if_neg_of (by decide) ?_⟩
    rcases wd with ⟨k, q⟩ | ⟨k, wd⟩
    · exact ⟨_, rfl, a', D, .ref c.N, .ref c.N, true, rfl, upd_same, EC, (fun u r => r), k, true, rfl, if_pos_of rfl (q a' na')⟩
    refine ⟨_, rfl, a', D, .ref c.N, .ref c.N, false, rfl, upd_same, EC, (fun u r => r), k, false, rfl, if_neg_of (by decide) ?_⟩
    rcases wd with ⟨k, q⟩ | ⟨k, wd⟩
    · exact ⟨_, rfl, a', D, .ref c.W, .ref c.W, true, rfl, upd_same, EC, (fun u r => r), k, true, rfl, if_pos_of rfl (q a' na')⟩
    refine ⟨_, rfl, a', D, .ref c.W, .ref c.W, false, rfl, upd_same, EC, (fun u r => r), k, false, rfl, if_neg_of (by decide) ?_⟩
    rcases wd with ⟨k, q⟩ | ⟨k, wd⟩
    · exact ⟨_, rfl, a', D, .ref c.M, .ref c.M, true, rfl, upd_same, EC, (fun u r => r), k, true, rfl, if_pos_of rfl (q a' na')⟩
    refine ⟨_, rfl, a', D, .ref c.M, .ref c.M, false, rfl, upd_same, EC, (fun u r => r), k, false, rfl, if_neg_of (by decide) ?_⟩
    rcases wd with ⟨k, q⟩ | ⟨k, wd⟩
    · exact ⟨_, rfl, a', D, .ref c.Y, .ref c.Y, true, rfl, upd_same, EC, (fun u r => r), k, true, rfl, if_pos_of rfl (q a' na')⟩
    refine ⟨_, rfl, a', D, .ref c.Y, .ref c.Y, false, rfl, upd_same, EC, (fun u r => r), k, false, rfl, if_neg_of (by decide) ?_⟩
    rcases wd with ⟨k, q⟩ | ⟨k, wd⟩
    · exact ⟨_, rfl, a', D, .ref c.I, .ref c.I, true, rfl, upd_same, EC, (fun u r => r), k, true, rfl, if_pos_of rfl (q a' na')⟩
    refine ⟨_, rfl, a', D, .ref c.I, .ref c.I, false, rfl, upd_same, EC, (fun u r => r), k, false, rfl, if_neg_of (by decide) ?_⟩
    rcases wd with ⟨k, q⟩ | ⟨k, wd⟩
    · exact ⟨_, rfl, a', D, .ref c.F, .ref c.F, true, rfl, upd_same, EC, (fun u r => r), k, true, rfl, if_pos_of rfl (q a' na')⟩
    exact wd.elim
end
end SWL
set_option Elab.async false
set_option linter.all false
set_option maxRecDepth 100000
set_option maxHeartbeats 8000000
namespace SWL
open PySem PySem.Spec PyProof.Rows L2 LamX
theorem cut_to (z : Str) (i : Nat) : (cutS z none (some ((i : Nat) : Int))).cps.toList = z.cps.toList.take i := by
  have h1 : HT.sIx z.length 0 none = 0 := rfl
  have h2 : HT.sIx z.length z.length (some ((i : Nat) : Int)) = min i z.length := HT.sIx_nat _ _ i
  unfold cutS
  rw [h1, h2]
  show (z.cps.toList.drop 0).take (min i z.length - 0) = _
  rw [List.drop_zero, Nat.sub_zero]
  by_cases h : i ≤ z.length
  · rw [Nat.min_eq_left h]
  · have e : z.cps.toList.length = z.length := cut_len z
    rw [Nat.min_eq_right (by omega), List.take_of_length_le (by omega), List.take_of_length_le (by omega)]
structure Off (H : Hp) (a g : Addr) : Prop where
  st : ∃ ks, H a = some (.dK ks)
  gr : ∃ xs, H g = some (.lst xs)
theorem SAt.off {H : Hp} {a g c : Addr} {cs : List Int} {n : Nat} (s : SAt H a g c cs n) : Off H a g := by
  obtain ⟨gs, r, t, h1, h2, _⟩ := s.ex
  exact ⟨⟨_, h1⟩, ⟨_, h2⟩⟩
def lettersL : List Str := ["ab", "ab", "a", "bz", "abc"]
def lotOk (ls : Str) : Bool := okLetters ls && decide (ls.length ≤ 3) && decide (0 < ls.length) && ls.cps.toList.all (fun c => decide (c < 128))
structure Lot (ls : Str) : Prop where
  ok : okLetters ls = true
  len : ls.length ≤ 3
  pos : 0 < ls.length
  small : ∀ c ∈ ls.cps.toList, c < 128
theorem lots_ok : lettersL.all lotOk = true := by decide +kernel
theorem lot_of {ls : Str} (h : ls ∈ lettersL) : Lot ls := by
  have e := List.all_eq_true.mp lots_ok ls h
  unfold lotOk at e
  simp only [Bool.and_eq_true, decide_eq_true_eq, List.all_eq_true] at e
  obtain ⟨⟨⟨e1, e2⟩, e3⟩, e4⟩ := e
  exact ⟨e1, e2, e3, e4⟩
def spPickS : Sp := fun vs H Q _ => ∃ (a g c : Addr) (cs : List Int) (n : Nat) (ls : Str), vs = [.ref a, .str ls] ∧ SAt H a g c cs n ∧ n ≤ 1000000 ∧ 0 < ls.length ∧ ls.length ≤ 1000000 ∧ ∀ H' d, d ∈ ls.cps.toList → SAt H' a g c cs (n + 1) → But H H' a g → Q (.str (sg d)) H'
def spSomeL : Sp := fun vs H Q _ => ∃ (a g c : Addr) (cs : List Int) (n : Nat), vs = [.ref a] ∧ SAt H a g c cs n ∧ n ≤ 1000000 ∧ ∀ H' z, z ∈ lettersL → SAt H' a g c cs (n + 1) → But H H' a g → Q (.str z) H'
/-- a word of these letters -/
def Of (ls z : Str) : Prop := ∀ d ∈ z.cps.toList, d ∈ ls.cps.toList
def spSomeW : Sp := fun vs H Q _ => ∃ (a g c : Addr) (cs : List Int) (n m : Nat) (ls : Str), vs = [.ref a, .str ls, .int (m : Nat)] ∧ 0 < ls.length ∧ ls.length ≤ 1000 ∧ m ≤ 20 ∧ SAt H a g c cs n ∧ n + 50 ≤ 1000000 ∧ ∀ H' z, Of ls z → z.length ≤ m → SAt H' a g c cs (n + 50) → But H H' a g → Q (.str z) H'
/-- so many signs drawn -/
def PickP (H1 : Hp) (a g c : Addr) (cs : List Int) (n : Nat) (ls : Str) (D : Addr) (j : Nat) (H' : Hp) : Prop := SAt H' a g c cs (n + j) ∧ But H1 H' a g ∧ ∃ ds : List Nat, ds.length = j ∧ (∀ d ∈ ds, d ∈ ls.cps.toList) ∧ H' D = some (.lst (ds.map fun d => V.str (sg d)))
theorem pick0 {H1 : Hp} {a g c D : Addr} {cs : List Int} {n : Nat} {ls : Str} (s : SAt H1 a g c cs n) (nD : H1 D = none) : PickP H1 a g c cs n ls D 0 (upd H1 D (.lst [])) :=
  ⟨s.grows (Grows.new nD), But.of (Grows.new nD), [], rfl, (fun d hd => by cases hd), upd_same⟩
theorem pickS {H1 H2 : Hp} {a g c D : Addr} {cs : List Int} {n j js jt : Nat} {ls : Str} {σ : L2.St} (s1 : SAt H1 a g c cs n) (nD : H1 D = none) (p : PickP H1 a g c cs n ls D j H2) (hs : σ[js]? = some (some (.ref a))) (ht : σ[jt]? = some (some (.str ls))) (hp : 0 < ls.length) (hl : ls.length ≤ 1000) (hn : n + j ≤ 1000000) (hj : j ≤ 1000) :
    tCall spPickS [] E0 (tCons (tVar js) (tCons (tVar jt) tNil)) σ H2 fun y H4 => ∃ acc, H4 D = some (.lst acc) ∧ acc.length < sizeLine ∧ PickP H1 a g c cs n ls D (j + 1) (upd H4 D (.lst (acc ++ [y]))) := by
  have sz : sizeLine = 16777216 := sizeLine_eq
  obtain ⟨s2, b2, ds, hdl, hds, hD⟩ := p
  have dG : D ≠ g := by
    obtain ⟨xs, hx⟩ := s1.off.gr
    exact (ne_of_none hx nD).symm
  have dA : D ≠ a := by
    obtain ⟨xs, hx⟩ := s1.off.st
    exact (ne_of_none hx nD).symm
  have dC : D ≠ c := by
    obtain ⟨_, _, _, _, _, h3, _⟩ := s1.ex
    exact (ne_of_none h3 nD).symm
  refine ⟨_, hs, _, ht, a, g, c, cs, n + j, ls, rfl, s2, hn, hp, by omega, fun H4 d hd s4 b4 => ?_⟩
  have hD4 := b4 D _ hD dA dG
  refine ⟨_, hD4, by rw [List.length_map]; omega, ?_, ?_, ds ++ [d], by rw [List.length_append, hdl]; rfl, fun e he => ?_, ?_⟩
  · obtain ⟨gs, r, t, h1, h2, h3, h4⟩ := s4.ex
    exact ⟨gs, r, t, by rw [upd_ne dA.symm]; exact h1, by rw [upd_ne dG.symm]; exact h2, by rw [upd_ne dC.symm]; exact h3, h4⟩
  · intro b o e n1 n2
    rw [upd_ne (ne_of_none e nD)]
    exact b4 b o (b2 b o e n1 n2) n1 n2
  · rcases List.mem_append.mp he with h | h
    · exact hds e h
    · rw [List.mem_singleton.mp h]
      exact hd
  · rw [upd_same, List.map_append]
    rfl
theorem join_sg (ds : List Nat) : (Txt.join "" (ds.map sg)).cps.toList = ds := by
  rw [TL.join_eq]
  refine (TL.tl_join "" (ds.map sg)).trans ?_
  have e2 : ∀ l : List Nat, TL.joinL [] ((l.map sg).map TL.tl) = l := by
    intro l
    induction l with
    | nil => rfl
    | cons c l ih =>
      cases l with
      | nil => rfl
      | cons d l =>
        show [c] ++ ([] ++ TL.joinL [] (((d :: l).map sg).map TL.tl)) = _
        rw [ih]
        rfl
  exact e2 ds
theorem sum_sg (ds : List Nat) : ((ds.map sg).map (·.length)).sum = ds.length := by
  induction ds with
  | nil => rfl
  | cons d ds ih =>
    simp only [List.map_cons, List.sum_cons, List.length_cons] at ih ⊢
    have : (sg d).length = 1 := rfl
    omega
/-- what is joined of them -/
theorem pick_join {H' : Hp} {D : Addr} {ls : Str} {ds : List Nat} (hl : ds.length ≤ 1000) (hd : ∀ d ∈ ds, d ∈ ls.cps.toList) (hD : H' D = some (.lst (ds.map fun d => V.str (sg d)))) :
    H' D = some (.lst ((ds.map sg).map V.str)) ∧ ((ds.map sg).map (·.length)).sum + (ds.map sg).length * ("" : Str).length ≤ 16777216 ∧ Of ls (Txt.join "" (ds.map sg)) ∧ (Txt.join "" (ds.map sg)).length = ds.length := by
  have e0 : ("" : Str).length = 0 := rfl
  have ej := join_sg ds
  refine ⟨hD.trans ?_, ?_, ?_, ?_⟩
  · rw [List.map_map]
    rfl
  · rw [sum_sg, e0, Nat.mul_zero]
    omega
  · intro d h
    rw [ej] at h
    exact hd d h
  · rw [← cut_len, ej]
section
variable {P : Program} {w : World} {K : PySem.W.Frag} {mg : Str → Option Value} {base : Heap}
theorem ok_pickS {f f1 : Addr} {fd fd1 : FuncData} (F : L2.Fun K "_law_pick" "_law_pick" sPick f fd) (B : Blt mg) (G : FnOk P w K mg base CX0 2 f1 fd1 ["state", "room"] spDraw) (D : Def mg K "_law_draw" f1 fd1 ["state", "room"]) : FnOk P w K mg base CX0 3 f fd ["state", "some"] spPickS := by
  refine F.ok scPick (fun vs H Q E h => ?_) (fun cdv A outer s H vs Q E hr h => ⟨_,
    pss_one (ps_ret (pe_ix ix_str (pv 1) (pe_call G hr (by rfl) D.g D.k D.b .nil pass0 (pa_cons (pv 0) (pa_cons (pe_callB call_len_str (by rfl) B.len PySem.boot_len (pa_cons (pv 1) pa_nil)) pa_nil))) (fun _ _ => rfl))), ?_⟩)
  · obtain ⟨a, g, c, cs, n, ls, rfl, _⟩ := h
    rfl
  · obtain ⟨a, g, c, cs, n, ls, rfl, hs, hn, hp, hl, q⟩ := h
    have sz : sizeLine = 16777216 := sizeLine_eq
    refine ⟨_, rfl, _, rfl, _, rfl, ls, rfl, by omega, a, g, c, cs, n, _, rfl, hs, hn, by omega, by omega, fun H' i hi hlt s' hb => ?_⟩
    obtain ⟨k, rfl⟩ : ∃ k : Nat, i = k := ⟨i.toNat, by omega⟩
    have hk : k < ls.cps.toList.length := by rw [cut_len]; omega
    exact ⟨ls, k, ls.cps.toList[k], rfl, rfl, by omega, atI_nat (List.getElem?_eq_getElem hk), q H' _ (List.getElem_mem hk) s' hb⟩
theorem scSomeL : FnScope ["state"] ["state"] (defScope sSomeL) := ⟨rfl, rfl, rfl, by decide +kernel, rfl, by decide +kernel, by decide +kernel⟩
theorem ok_someL {f f1 : Addr} {fd fd1 : FuncData} (F : L2.Fun K "_law_some_letters" "_law_some_letters" sSomeL f fd) (G : FnOk P w K mg base CX0 3 f1 fd1 ["state", "some"] spPick) (D : Def mg K "_law_pick" f1 fd1 ["state", "some"]) : FnOk P w K mg base CX0 4 f fd ["state"] spSomeL := by
  refine F.ok scSomeL (fun vs H Q E h => ?_) (fun cdv A outer s H vs Q E hr h => ⟨_,
    pss_one (ps_ret (pe_call G hr (by rfl) D.g D.k D.b .nil pass0 (pa_cons (pv 0) (pa_cons (pe_lst (pa_cons pe_str (pa_cons pe_str (pa_cons pe_str (pa_cons pe_str (pa_cons pe_str pa_nil)))))) pa_nil)))), ?_⟩)
  · obtain ⟨a, g, c, cs, n, rfl, _⟩ := h
    rfl
  · obtain ⟨a, g, c, cs, n, rfl, hs, hn, q⟩ := h
    refine ⟨_, rfl, by show 5 ≤ sizeLine; decide, fun p np => ?_⟩
    obtain ⟨gs, r, t, h1, h2, h3, h4⟩ := hs.ex
    refine ⟨a, g, c, p, cs, n, lettersL.map V.str, rfl, hs.grows (Grows.new np), hn, upd_same, (ne_of_none h2 np).symm, by decide, by decide, fun H' x hx s' hb => ?_⟩
    obtain ⟨z, hz, rfl⟩ := List.mem_map.mp hx
    exact q H' z hz s' ((But.of (Grows.new np)).trans hb)
end
end SWL
set_option Elab.async false
set_option linter.all false
set_option maxRecDepth 100000
set_option maxHeartbeats 8000000
namespace SWL
open PySem PySem.Spec PyProof.Rows L2 LamX
/-! a drawn formula -/
/-- rows in a list, laid -/
structure RowsAt (H : Hp) (R : Addr) (F : List Ro) (as : List Addr) : Prop where
  at_ : H R = some (.lst (as.map V.ref))
  len : as.length = F.length
  row : ∀ (k : Nat) (a : Addr) (r : Ro), as[k]? = some a → F[k]? = some r → H a = some (.tup r.vs)
theorem RowsAt.row' {H : Hp} {R : Addr} {F : List Ro} {as : List Addr} (t : RowsAt H R F as) {a : Addr} (h : a ∈ as) : ∃ xs, H a = some (.tup xs) := by
  obtain ⟨k, hk⟩ := List.getElem?_of_mem h
  have kl := (List.getElem?_eq_some_iff.mp hk).1
  exact ⟨_, t.row k a _ hk (List.getElem?_eq_getElem (by have := t.len; omega))⟩
theorem RowsAt.keep {H H' : Hp} {R : Addr} {F : List Ro} {as : List Addr} (t : RowsAt H R F as) (g : ∀ b xs, H b = some (.tup xs) → H' b = some (.tup xs)) (h : H' R = some (.lst (as.map V.ref))) : RowsAt H' R F as :=
  ⟨h, t.len, fun k a r h1 h2 => g _ _ (t.row k a r h1 h2)⟩
theorem But.tups {H H' : Hp} {a g : Addr} (x : But H H' a g) (o : Off H a g) : ∀ b xs, H b = some (.tup xs) → H' b = some (.tup xs) := fun b xs e => by
  obtain ⟨ks, h1⟩ := o.st
  obtain ⟨ys, h2⟩ := o.gr
  exact x b _ e (ne_of e h1 (by intro z; cases z)) (ne_of e h2 (by intro z; cases z))
theorem RowsAt.but {H H' : Hp} {a g R : Addr} {F : List Ro} {as : List Addr} (t : RowsAt H R F as) (x : But H H' a g) (o : Off H a g) (n : R ≠ g) : RowsAt H' R F as := by
  obtain ⟨ks, h1⟩ := o.st
  exact t.keep (x.tups o) (x R _ t.at_ (ne_of t.at_ h1 (by intro z; cases z)) n)
theorem RowsAt.grows {H H' : Hp} {R : Addr} {F : List Ro} {as : List Addr} (t : RowsAt H R F as) (x : Grows H H') : RowsAt H' R F as := t.keep (fun b xs e => x _ _ e) (x _ _ t.at_)
theorem RowsAt.snoc {H : Hp} {R q : Addr} {F : List Ro} {as : List Addr} {r : Ro} (t : RowsAt H R F as) (hq : H q = some (.tup r.vs)) : RowsAt (upd H R (.lst (as.map V.ref ++ [.ref q]))) R (F ++ [r]) (as ++ [q]) := by
  refine ⟨by rw [upd_same, List.map_append]; rfl, by rw [List.length_append, List.length_append, t.len]; rfl, fun k b s hb hs => ?_⟩
  have un : ∀ {c : Addr} {xs : List V}, H c = some (.tup xs) → upd H R (.lst (as.map V.ref ++ [.ref q])) c = some (.tup xs) := fun e => by
    rw [upd_ne (ne_of e t.at_ (by intro z; cases z))]
    exact e
  by_cases c : k < as.length
  · rw [List.getElem?_append_left c] at hb
    rw [List.getElem?_append_left (by have := t.len; omega)] at hs
    exact un (t.row k b s hb hs)
  · have h0 : k - as.length = 0 := by
      have := (List.getElem?_eq_some_iff.mp hb).1
      rw [List.length_append, List.length_singleton] at this
      omega
    have tl := t.len
    rw [List.getElem?_append_right (by omega), h0] at hb
    rw [List.getElem?_append_right (by omega), show k - F.length = 0 by omega] at hs
    obtain rfl : q = b := Option.some.inj hb
    obtain rfl : r = s := Option.some.inj hs
    exact un hq
theorem SAt.put {H : Hp} {a g c R : Addr} {cs : List Int} {n : Nat} (s : SAt H a g c cs n) (h1 : R ≠ a) (h2 : R ≠ g) (h3 : R ≠ c) (o : HO) : SAt (upd H R o) a g c cs n := by
  obtain ⟨gs, r, t, e1, e2, e3, e4⟩ := s.ex
  exact ⟨gs, r, t, by rw [upd_ne h1.symm]; exact e1, by rw [upd_ne h2.symm]; exact e2, by rw [upd_ne h3.symm]; exact e3, e4⟩
theorem SAt.fresh {H : Hp} {a g c R : Addr} {cs : List Int} {n : Nat} (s : SAt H a g c cs n) (h : H R = none) : R ≠ a ∧ R ≠ g ∧ R ≠ c := by
  obtain ⟨gs, r, t, e1, e2, e3, e4⟩ := s.ex
  exact ⟨(ne_of_none e1 h).symm, (ne_of_none e2 h).symm, (ne_of_none e3 h).symm⟩
/-- the words that are drawn, and how many rows they hang on -/
def opsL : List Str := ["not", "and", "or", "later", "earlier"]
def sizeO (w : Str) : Nat := if w = "and" ∨ w = "or" then 2 else 1
theorem mk_row {w : Str} (hw : w ∈ opsL) {is : List Nat} (hl : is.length = sizeO w) : ∃ r : Ro, r.vs = .str w :: is.map nV ∧ r.refs = is ∧ ∀ c, r ≠ .let_ c := by
  have h1 : is.length = 1 → ∃ i, is = [i] := fun h => by
    match is, h with
    | [i], _ => exact ⟨i, rfl⟩
  have h2 : is.length = 2 → ∃ i j, is = [i, j] := fun h => by
    match is, h with
    | [i, j], _ => exact ⟨i, j, rfl⟩
  have n1 : sizeO "not" = 1 := by decide +kernel
  have n2 : sizeO "and" = 2 := by decide +kernel
  have n3 : sizeO "or" = 2 := by decide +kernel
  have n4 : sizeO "later" = 1 := by decide +kernel
  have n5 : sizeO "earlier" = 1 := by decide +kernel
  simp only [opsL, List.mem_cons, List.not_mem_nil, or_false] at hw
  rcases hw with rfl | rfl | rfl | rfl | rfl
  · obtain ⟨i, rfl⟩ := h1 (by rw [hl, n1])
    exact ⟨.nt i, rfl, rfl, fun c e => by cases e⟩
  · obtain ⟨i, j, rfl⟩ := h2 (by rw [hl, n2])
    exact ⟨.an i j, rfl, rfl, fun c e => by cases e⟩
  · obtain ⟨i, j, rfl⟩ := h2 (by rw [hl, n3])
    exact ⟨.or_ i j, rfl, rfl, fun c e => by cases e⟩
  · obtain ⟨i, rfl⟩ := h1 (by rw [hl, n4])
    exact ⟨.la i, rfl, rfl, fun c e => by cases e⟩
  · obtain ⟨i, rfl⟩ := h1 (by rw [hl, n5])
    exact ⟨.ea i, rfl, rfl, fun c e => by cases e⟩
def spSomeF : Sp := fun vs H Q _ => ∃ (a g c : Addr) (cs : List Int) (n m : Nat) (ls : Str) (fu : Bool), vs = [.ref a, .str ls, .int ((m : Nat) : Int), .bl fu] ∧ 0 < ls.length ∧ ls.length ≤ 10 ∧ 1 ≤ m ∧ m ≤ 20 ∧ SAt H a g c cs n ∧ n + 200 ≤ 1000000 ∧
  ∀ H' v F, FormAt H' v F → FOk ls F → 1 ≤ F.length → F.length ≤ ls.length + m + 1 → SAt H' a g c cs (n + 200) → But H H' a g → Q v H'
abbrev NF : List Str := ["state", "letters", "many", "future", "rows", "turned", "lap", "words", "word", "size", "letter", "at"]
section
variable {P : Program} {w : World} {K : PySem.W.Frag} {mg : Str → Option Value} {base : Heap}
end
end SWL
set_option Elab.async false
set_option linter.all false
set_option maxRecDepth 100000
set_option maxHeartbeats 8000000
namespace SWL
open PySem PySem.Spec PyProof.Rows L2 LamX
/-! is_formula_row, is_formula, need_formula -/
def formsf (z : Str) : Option Nat := if z = "letter" then some 0 else sizeWf z
structure SizesK (K : PySem.W.Frag) (w : World) (mg : Str → Option Value) (d : Addr) : Prop where
  g : mg "SIZES" = some (.ref d)
  kd : ∃ es n, KDict K w d es n
  all : ∀ z : Str, (formsf z = none ∧ PySem.W.nsIn K d z = some none) ∨ ∃ (k : Nat) (t : Tok), formsf z = some k ∧ PySem.W.nsIn K d z = some (some (.int ((k : Nat) : Int) t))
def spFRow (K : PySem.W.Frag) : Sp := fun vs H Q _ => ∃ (ls : Str) (v : V) (n : Nat) (e : El), vs = [.str ls, v, .int ((n : Nat) : Int)] ∧ ElAt K H v e ∧ ElIn e ∧ n ≤ 6000 ∧ ∀ H', Grows H H' → Q (.bl (okElf ls n e)) H'
section
variable {P : Program} {w : World} {K : PySem.W.Frag} {mg : Str → Option Value} {base : Heap}
theorem scFRow : FnScope NR ["letters", "thing", "at"] (defScope sFRow) := ⟨rfl, rfl, rfl, by decide +kernel, rfl, by decide +kernel, by decide +kernel⟩
theorem ok_fRow {f f1 dF : Addr} {fd fd1 : FuncData} (F : L2.Fun K "is_formula_row" "is_formula_row" sFRow f fd) (B : Blt mg) (FK : SizesK K w mg dF)
    (G : FnOk P w K mg base CX0 1 f1 fd1 ["thing", "least", "most"] (spIsNum K)) (D : Def mg K "is_number" f1 fd1 ["thing", "least", "most"]) : FnOk P w K mg base CX0 2 f fd ["letters", "thing", "at"] (spFRow K) := by
  obtain ⟨es, nn, kd⟩ := FK.kd
  refine F.ok scFRow (fun vs H Q E h => ?_) (fun cdv A outer s H vs Q E hr h => ⟨_,
    pss_cons (ps_if (pw_or (pt_not (pt_truth (pe_callB call_isi (by rfl) B.isi (by decide +kernel) (pa_cons (pv 1) (pa_cons (pe_bltn (u := .type "tuple") (v := .ty "tuple") (by rfl) B.tuple (by decide +kernel) rfl) pa_nil))) (by intro _; rfl)))
        (pw_or (pt_cmpR (op_eqD (by have := hr.un; show (A.deeper _).units + 64 < _; omega)) (pv 1) (pe_tup pa_nil) (nomark _))
        (pw_or (pt_not (pt_truth (pe_callB call_isi (by rfl) B.isi (by decide +kernel) (pa_cons (pe_ix ix_tup (pv 1) pe_int (fun _ _ => rfl)) (pa_cons (pe_bltn (u := .type "str") (v := .ty "str") (by rfl) B.str (by decide +kernel) rfl) pa_nil))) (by intro _; rfl)))
        (pw_or1 (pt_cmpR (op_notIn_kd kd) (pe_ix ix_tup (pv 1) pe_int (fun _ _ => rfl)) (pe_glob (v := .ref dF) (by rfl) FK.g rfl) rfl))))).pt
      (pss_one (ps_ret pe_bl)) pss_nil)
    (pss_cons (ps_asg (pv 1) (pg_star rfl (pg_name (i := 3) scFRow.nd rfl (Or.inl rfl)) (pg_name (i := 4) scFRow.nd rfl (Or.inl rfl))))
    (pss_cons (ps_if (pt_cmpR op_eq (pv 3) pe_str (nomark _)) (pss_one (ps_ret (pe_and (pe_cmpR op_eq (pe_callB call_len_seq (by rfl) B.len PySem.boot_len (pa_cons (pv 4) pa_nil)) pe_int (nomark _))
        (pe_and (pe_callB call_isi (by rfl) B.isi (by decide +kernel) (pa_cons (pe_ix ix_list (pv 4) pe_int (fun _ _ => rfl)) (pa_cons (pe_bltn (u := .type "str") (v := .ty "str") (by rfl) B.str (by decide +kernel) rfl) pa_nil)))
        (pe_and (pe_cmpR op_eq (pe_callB call_len_str (by rfl) B.len PySem.boot_len (pa_cons (pe_ix ix_list (pv 4) pe_int (fun _ _ => rfl)) pa_nil)) pe_int (nomark _))
        (pe_one (pe_cmpR op_in_sign (pe_ix ix_list (pv 4) pe_int (fun _ _ => rfl)) (pv 0) rfl))))))) pss_nil)
    (pss_one (ps_ret (pe_and (pe_cmpR op_eq (pe_callB call_len_seq (by rfl) B.len PySem.boot_len (pa_cons (pv 4) pa_nil)) (pe_ix ix_kdict (pe_glob (v := .ref dF) (by rfl) FK.g rfl) (pv 3) (fun _ _ => rfl)) (nomark _))
      (pe_one (pe_callB (cr_all rfl) (by rfl) B.all (by decide +kernel) (pa_cons (pe_lc (own := [("one", 5)]) (g := gName 5) (tt := tYes) (te := tCall (spIsNum K) [] E0 (tCons (tVar 5) (tCons (tC (.int 0)) (tCons (tOp rSub (tVar 2) (tC (.int 1))) tNil)))) rfl scFRow.nd (pi_list (pv 4)) (blkOk_by (N := NR) (sc := defScope sFRow) (by decide +kernel)) (fun _ _ _ _ _ => pg_name (i := 5) scFRow.nd rfl (Or.inl rfl)) (fun _ _ _ _ _ => pts_nil)
        (fun _ _ _ _ _ => pe_call G hr (by rfl) D.g D.k D.b .nil pass0 (pa_cons (pv 5) (pa_cons pe_int (pa_cons (pe_op op_sub (pv 2) pe_int) pa_nil))))) pa_nil)))))))), ?_⟩)
  · obtain ⟨ls, v, n, e, rfl, _⟩ := h
    rfl
  · obtain ⟨ls, v, n, e, rfl, hv, hin, hn, q⟩ := h
    have sz : sizeLine = 16777216 := sizeLine_eq
    cases e with
    | no =>
      obtain ⟨t, ty, kk⟩ := hv
      exact ⟨_, rfl, v, .ty "tuple", .type t, .type "tuple", false, rfl, .ty "tuple", ty, kit_ty kk, false, rfl, if_pos_of (by decide) (if_pos_of rfl (q H (Grows.refl H)))⟩
    | row xs =>
      obtain ⟨a, rfl, ha⟩ := hv
      obtain ⟨fl, few, hw, hz⟩ := hin
      refine ⟨_, rfl, .ref a, .ty "tuple", .type "tuple", .type "tuple", true, rfl, .ty "tuple", .base (.tup ha), kit_ty (by decide +kernel), true, rfl, if_neg_of (by decide) ?_⟩
      refine ⟨_, rfl, by show 0 ≤ sizeLine; omega, fun p0 np0 => ?_⟩
      have g0 : Grows H (upd H p0 (.tup [])) := Grows.new np0
      have k0 : upd H p0 (.tup []) p0 = some (.tup []) := upd_same
      generalize upd H p0 (.tup []) = H1 at g0 k0 ⊢
      have ha1 := g0 _ _ ha
      refine ⟨_, _, .tup (.inl (.inl ha1)) (fl_dp fl), .tup (.inl (.inl k0)) .nil, fl_shaped hz, by decide +kernel, _, rfl, ?_⟩
      cases xs with
      | nil => exact if_pos_of (by decide +kernel) (if_pos_of rfl (q H1 g0))
      | cons x rest =>
        refine if_neg_of (by show ¬ (PyData.eqv (.tuple (flD x :: rest.map flD)) (.tuple [])) = true; rw [PyData.eqv]; exact Bool.false_ne_true) ?_
        have i0 : atI (x :: rest) 0 = some x := atI_nat (j := 0) rfl
        rcases flat_ty (K := K) (H := H1) (fl x List.mem_cons_self) with ⟨z, rfl⟩ | ⟨nz, t, ty, kk⟩
        · refine ⟨_, rfl, a, _, _, _, rfl, rfl, .inl (.inl ha1), i0, .str z, .ty "str", .type "str", .type "str", true, rfl, .ty "str", .base (.str z), kit_ty (by decide +kernel), true, rfl, if_neg_of (by decide) ?_⟩
          refine ⟨_, rfl, a, _, _, _, rfl, rfl, .inl (.inl ha1), i0, ?_⟩
          rcases FK.all z with ⟨f0, ns⟩ | ⟨k, t, f1, ns⟩
          · refine ⟨z, _, rfl, rfl, ns, true, rfl, if_pos_of rfl ?_⟩
            have e0 : okElf ls n (.row (.str z :: rest)) = false := by
              show okRowf ls n (.str z :: rest) = false
              unfold formsf at f0
              by_cases c : z = "letter"
              · rw [if_pos c] at f0
                cases f0
              · rw [if_neg c] at f0
                rw [okRow_notf c, f0]
                rfl
            rw [e0] at q
            exact q H1 g0
          refine ⟨z, _, rfl, rfl, ns, false, rfl, if_neg_of (by decide) ?_⟩
          refine ⟨_, rfl, a, .str z, rest, rfl, .inl (.inl ha1), by simp only [List.length_cons] at few; omega, fun D nD => ?_⟩
          have gD : Grows H1 (upd H1 D (.lst rest)) := Grows.new nD
          have kD : upd H1 D (.lst rest) D = some (.lst rest) := upd_same
          generalize upd H1 D (.lst rest) = H2 at gD kD ⊢
          have g2 := g0.trans gD
          have hl : rest.length ≤ 4999 := by simp only [List.length_cons] at few; omega
          refine ⟨_, rfl, rfl, _, rfl, ?_⟩
          by_cases c : z = "letter"
          · subst c
            refine if_pos_of (decide_eq_true rfl) ?_
            refine ⟨_, rfl, D, rest, rfl, .inl (.inl (.inl kD)), rfl, _, rfl, ?_⟩
            have e0 : okElf ls n (.row (.str "letter" :: rest)) = letB ls rest := rfl
            rw [e0] at q
            match rest, kD, q with
            | [], kD, q => exact if_neg_of (by decide) (q H2 g2)
            | x :: y :: r, kD, q => exact if_neg_of (by rw [decide_eq_false (fun e => by have := V.int.inj e; simp only [List.length_cons] at this; omega)]; decide) (q H2 g2)
            | [x], kD, q =>
              have q : ∀ H', Grows H H' → Q (.bl (oneL ls x)) H' := q
              refine if_pos_of (decide_eq_true rfl) ?_
              have j0 : atI [x] 0 = some x := atI_nat (j := 0) rfl
              rcases flat_ty (K := K) (H := H2) (fl x (List.mem_cons_of_mem _ List.mem_cons_self)) with ⟨y, rfl⟩ | ⟨nz, t, ty, kk⟩
              · have yl := (hz y (List.mem_cons_of_mem _ List.mem_cons_self)).1
                refine ⟨_, rfl, D, _, _, _, rfl, rfl, .inl (.inl kD), j0, .str y, .ty "str", .type "str", .type "str", true, rfl, .ty "str", .base (.str y), kit_ty (by decide +kernel), true, rfl, if_pos_of rfl ?_⟩
                refine ⟨_, rfl, D, _, _, _, rfl, rfl, .inl (.inl kD), j0, y, rfl, by omega, rfl, _, rfl, ?_⟩
                have q := q H2 g2
                by_cases c1 : y.length = 1
                · refine if_pos_of (by rw [c1]; decide) ?_
                  obtain ⟨d, rfl⟩ : ∃ d, y = ⟨#[d]⟩ := by
                    obtain ⟨⟨l⟩⟩ := y
                    match l, c1 with
                    | [d], _ => exact ⟨d, rfl⟩
                  refine ⟨_, rfl, D, _, _, _, rfl, rfl, .inl (.inl kD), j0, _, rfl, d, ls, rfl, rfl, ?_⟩
                  have e1 : oneL ls (.str ⟨#[d]⟩) = decide (d ∈ ls.cps.toList) := by
                    show (true && (decide (d ∈ ls.cps.toList) && true)) = _
                    rw [Bool.true_and, Bool.and_true]
                  rw [e1] at q
                  exact q
                · refine if_neg_of (by rw [decide_eq_false (fun e => c1 (by have := V.int.inj e; omega))]; decide) ?_
                  have e1 : oneL ls (.str y) = false := by
                    have e2 : oneL ls (.str y) = (decide (y.length = 1) && y.cps.toList.all (fun c => decide (c ∈ ls.cps.toList))) := rfl
                    rw [e2, decide_eq_false c1]
                    rfl
                  rw [e1] at q
                  exact q
              · have e1 : oneL ls x = false := by
                  cases x with
                  | str y => exact absurd rfl (nz y)
                  | _ => rfl
                rw [e1] at q
                exact ⟨_, rfl, D, _, _, _, rfl, rfl, .inl (.inl kD), j0, x, .ty "str", .type t, .type "str", false, rfl, .ty "str", ty, kit_ty kk, false, rfl, if_neg_of (by decide) (q H2 g2)⟩
          · refine if_neg_of (by rw [decide_eq_false (fun e => c (V.str.inj e))]; decide) ?_
            have f2 : sizeWf z = some k := by
              unfold formsf at f1
              rw [if_neg c] at f1
              exact f1
            have e0 : okElf ls n (.row (.str z :: rest)) = (decide (rest.length = k) && rest.all (numB n)) := by
              show okRowf ls n (.str z :: rest) = _
              rw [okRow_notf c, f2]
              rfl
            rw [e0] at q
            refine ⟨_, rfl, D, rest, rfl, .inl (.inl (.inl kD)), _, rfl, dF, z, .int ((k : Nat) : Int), rfl, rfl, ⟨es, nn, _, kd.at_, kd.lit, ns, ⟨_, rfl⟩⟩, rfl, _, rfl, ?_⟩
            by_cases c1 : rest.length = k
            · refine if_pos_of (decide_eq_true (by rw [c1])) ?_
              rw [decide_eq_true c1, Bool.true_and] at q
              refine ⟨_, rfl, D, rfl, ⟨_, .inl (.inl kD)⟩, fun D2 nD2 => ?_⟩
              refine comp (xs := rest) walk_list (fun _ => true) (fun x => .bl (numB n x)) nD2 (fun H3 g3 => .inl (.inl (g3 _ _ kD))) (by omega) (fun x H k _ g hk => hk H (Grows.refl H)) (fun x H3 Q hx _ g3 hq => ?_) (fun H3 g3 hD2 => ?_)
              · refine ⟨_, rfl, _, rfl, _, _, rfl, rfl, x, 0, _, rfl, ?_⟩
                rcases flat_num (K := K) (H := H3) (fl x (List.mem_cons_of_mem _ hx)) n with ⟨i, rfl, en⟩ | ⟨nn, en⟩
                · refine .inl ⟨i, rfl, ?_⟩
                  have := hq H3 (Grows.refl H3)
                  rw [en] at this
                  exact this
                · refine .inr ⟨nn, ?_⟩
                  have := hq H3 (Grows.refl H3)
                  rw [en] at this
                  exact this
              · rw [filter_yes] at hD2
                refine ⟨D2, rest.map (numB n), rfl, .inl (.inl (hD2.trans ?_)), ?_⟩
                · rw [List.map_map]
                  rfl
                · rw [List.all_map]
                  exact q H3 (g2.trans g3)
            · refine if_neg_of (by rw [decide_eq_false (fun e => c1 (by have := V.int.inj e; omega))]; decide) ?_
              rw [decide_eq_false c1, Bool.false_and] at q
              exact q H2 g2
        · have e1 : okElf ls n (.row (x :: rest)) = false := by
            show okRowf ls n (x :: rest) = false
            cases x with
            | str y => exact absurd rfl (nz y)
            | _ => rfl
          rw [e1] at q
          exact ⟨_, rfl, a, _, _, _, rfl, rfl, .inl (.inl ha1), i0, x, .ty "str", .type t, .type "str", false, rfl, .ty "str", ty, kit_ty kk, false, rfl, if_pos_of (by decide) (if_pos_of rfl (q H1 g0))⟩
end
def FormAtf (H : Hp) (v : V) (F : List Rf) : Prop := ∃ (p : Addr) (as : List Addr), v = .ref p ∧ H p = some (.tup (as.map V.ref)) ∧ as.length = F.length ∧ ∀ (k : Nat) (a : Addr) (r : Rf), as[k]? = some a → F[k]? = some r → H a = some (.tup r.vs)
theorem FormAtf.grows {H H' : Hp} (g : Grows H H') {v : V} {F : List Rf} (h : FormAtf H v F) : FormAtf H' v F := by
  obtain ⟨p, as, h1, h2, h3, h4⟩ := h
  exact ⟨p, as, h1, g _ _ h2, h3, fun k a r ha hr => g _ _ (h4 k a r ha hr)⟩
theorem FormAtf.th {K : PySem.W.Frag} {H : Hp} {v : V} {F : List Rf} (h : FormAtf H v F) : ThAt K H v (.tup (rowsElf F)) := by
  obtain ⟨p, as, h1, h2, h3, h4⟩ := h
  refine ⟨p, _, h1, h2, by unfold rowsElf; rw [List.length_map, List.length_map, h3], fun k x e hx he => ?_⟩
  unfold rowsElf at he
  rw [List.getElem?_map] at hx he
  cases ha : as[k]? with
  | none => rw [ha] at hx; cases hx
  | some a =>
    cases hr : F[k]? with
    | none => rw [hr] at he; cases he
    | some r =>
      rw [ha] at hx
      rw [hr] at he
      obtain rfl := Option.some.inj hx
      obtain rfl := Option.some.inj he
      exact ⟨a, rfl, h4 k a r ha hr⟩
theorem thIn_rowsf {ls : Str} {F : List Rf} (hs : ∀ c ∈ ls.cps.toList, c < 0x110000) (ok : FOkf ls F) : ThIn (.tup (rowsElf F)) := fun e he => by
  obtain ⟨r, hr, rfl⟩ := List.mem_map.mp he
  obtain ⟨k, hk⟩ := List.getElem?_of_mem hr
  exact elIn_rowf hs (ok k r hk)
def spIsF (K : PySem.W.Frag) (CN : Addr) : Sp := fun vs H Q E => ∃ x v, vs = [x, v] ∧ LetOr K CN H x E fun ls => ∃ th, ThAt K H v th ∧ ThIn th ∧ ∀ H', Grows H H' → Q (.bl (okThf ls th)) H'
def spNeedF (K : PySem.W.Frag) (CN CF : Addr) : Sp := fun vs H Q E => ∃ x v, vs = [x, v] ∧ LetOr K CN H x E fun ls => ∃ th, ThAt K H v th ∧ ThIn th ∧ ((okThf ls th = false ∧ ∀ H', Grows H H' → E (.ref CF) none H') ∨ (okThf ls th = true ∧ ∀ H', Grows H H' → Q .non H'))
section
variable {P : Program} {w : World} {K : PySem.W.Frag} {mg : Str → Option Value} {base : Heap}
theorem scIsF : FnScope NT ["letters", "thing"] (defScope sIsF) := ⟨rfl, rfl, rfl, by decide +kernel, rfl, by decide +kernel, by decide +kernel⟩
theorem ok_isF {f f1 f2 CN : Addr} {fd fd1 fd2 : FuncData} (F : L2.Fun K "is_formula" "is_formula" sIsF f fd) (B : Blt mg)
    (G1 : FnOk P w K mg base (L2.CX P w) 3 f1 fd1 ["thing"] (spNeedL K CN)) (D1 : Def mg K "need_letters" f1 fd1 ["thing"])
    (G2 : FnOk P w K mg base CX0 2 f2 fd2 ["letters", "thing", "at"] (spFRow K)) (D2 : Def mg K "is_formula_row" f2 fd2 ["letters", "thing", "at"]) : FnOk P w K mg base (L2.CX P w) 4 f fd ["letters", "thing"] (spIsF K CN) := by
  refine F.okX scIsF (fun vs H Q E h => ?_) (fun cdv A outer s H vs Q E hr h => ⟨_,
    pss_cons (ps_expr (pe_call G1 (hr.mono (by decide)) (by rfl) D1.g D1.k D1.b .nil (passes_call (takes_of rfl rfl rfl rfl) fun _ _ _ _ h => h) (pa_cons (pv 0) pa_nil)))
    (pss_cons (ps_if (pw_or (pt_not (pt_truth (pe_callB call_isi (by rfl) B.isi (by decide +kernel) (pa_cons (pv 1) (pa_cons (pe_bltn (u := .type "tuple") (v := .ty "tuple") (by rfl) B.tuple (by decide +kernel) rfl) pa_nil))) (by intro _; rfl)))
      (pw_or1 (pt_not (pt_chain op_le op_le pe_int (pe_callB call_len_seq (by rfl) B.len PySem.boot_len (pa_cons (pv 1) pa_nil)) (pe_glob (v := .int 6000) (by rfl) B.rowsF.choose_spec ⟨_, rfl⟩))))).pt (pss_one (ps_ret pe_bl)) pss_nil)
    (pss_one (ps_ret (pe_callB (cr_all rfl) (by rfl) B.all (by decide +kernel) (pa_cons (pe_lc (own := [("at", 2), ("row", 3)]) (g := gTup K 2 (gCons (gName 2) (gCons (gName 3) gNil))) (tt := tYes) (te := tCall (spFRow K) [] E0 (tCons (tVar 0) (tCons (tVar 3) (tCons (tVar 2) tNil)))) rfl scIsF.nd (pi_enumT (by rfl) B.enum (pa_cons (pv 1) pa_nil)) (blkOk_by (N := NT) (sc := defScope sIsF) (by decide +kernel))
        (fun _ _ _ _ _ => pg_tup rfl (pgs_cons (pg_name (i := 2) scIsF.nd rfl (Or.inl rfl)) (pgs_cons (pg_name (i := 3) scIsF.nd rfl (Or.inl rfl)) pgs_nil))) (fun _ _ _ _ _ => pts_nil) (fun _ _ _ _ _ => pe_call G2 (hr.mono (by decide)) (by rfl) D2.g D2.k D2.b .nil pass0 (pa_cons (pv 0) (pa_cons (pv 3) (pa_cons (pv 2) pa_nil))))) pa_nil))))), ?_⟩)
  · obtain ⟨x, v, rfl, _⟩ := h
    rfl
  · obtain ⟨x, v, rfl, h⟩ := h
    have sz : sizeLine = 16777216 := sizeLine_eq
    refine ⟨_, rfl, x, rfl, ?_⟩
    rcases h with ⟨h | ⟨z, rfl, hz, hb⟩, e⟩ | ⟨ls, rfl, hls, hok, th, hv, hin, q⟩
    · exact .inr ⟨h, e H (Grows.refl H)⟩
    · exact .inl ⟨z, rfl, hz, fun H' g => ⟨(fun c => by rw [hb] at c; cases c), fun _ => e H' g⟩⟩
    refine .inl ⟨ls, rfl, hls, fun H1 g1 => ⟨fun _ => ?_, fun c => by rw [hok] at c; cases c⟩⟩
    have hv := hv.grows g1
    cases th with
    | no =>
      obtain ⟨t, ty, kk⟩ := hv
      exact ⟨_, rfl, v, .ty "tuple", .type t, .type "tuple", false, rfl, .ty "tuple", ty, kit_ty kk, false, rfl, if_pos_of (by decide) (if_pos_of rfl (q H1 g1))⟩
    | tup es =>
      obtain ⟨p, vs, rfl, hp, hl, hall⟩ := hv
      refine ⟨_, rfl, .ref p, .ty "tuple", .type "tuple", .type "tuple", true, rfl, .ty "tuple", .base (.tup hp), kit_ty (by decide +kernel), true, rfl, if_neg_of (by decide) ?_⟩
      refine ⟨_, rfl, p, vs, rfl, .inr (.inl (.inl hp)), _, _, rfl, rfl, decide ((1 : Int) ≤ vs.length), rfl, ?_⟩
      have bad : ¬ (1 ≤ es.length ∧ es.length ≤ 6000) → okThf ls (.tup es) = false := fun c => by
        show (decide _ && okElsf ls es) = false
        rw [decide_eq_false c, Bool.false_and]
      by_cases c1 : (1 : Int) ≤ vs.length
      · refine if_pos_of (decide_eq_true c1) ⟨_, _, rfl, rfl, decide ((vs.length : Int) ≤ 6000), rfl, ?_⟩
        by_cases c2 : (vs.length : Int) ≤ 6000
        · refine if_neg_of (by rw [decide_eq_true c2]; decide) ?_
          have eo : okThf ls (.tup es) = okElsf ls es := by
            show (decide _ && okElsf ls es) = _
            rw [decide_eq_true ⟨by omega, by omega⟩, Bool.true_and]
          rw [eo] at q
          refine ⟨_, rfl, p, vs, rfl, .inl (.inl hp), fun D nD => ?_⟩
          refine lc_it (walk_enumT (xs := vs)) (fun k H' => Grows H1 H' ∧ H' D = some (.lst (((List.range k).map (rowBf ls es)).map V.bl))) ⟨Grows.new nD, upd_same⟩ (fun k H' _ hh => .inl (.inl (hh.1 _ _ hp))) ?_ ?_
          · rintro k y H2 H3 hk ⟨g, hD⟩ ⟨tp, _, u, rfl, ntp, rfl, e1, e2⟩
            have e1' := (Option.some.inj e1).symm
            subst e1'
            have g3 : Grows H2 (upd H2 tp (.tup [.int ((k : Nat) : Int), u])) := Grows.new ntp
            refine ⟨tp, _, rfl, .inl (.inl upd_same), rfl, _, _, rfl, _, _, rfl, rfl, rfl, ?_⟩
            generalize upd H2 tp (.tup [.int ((k : Nat) : Int), u]) = H3 at g3 ⊢
            obtain ⟨e, he⟩ : ∃ e, es[k]? = some e := ⟨_, List.getElem?_eq_getElem (by omega)⟩
            have e2 : vs[k]? = some u := e2
            refine ⟨_, rfl, _, rfl, _, rfl, ls, u, k, e, rfl, (hall k u e e2 he).grows (g.trans g3), hin e (List.mem_of_getElem? he), by omega, fun H4 g4 => ?_⟩
            refine ⟨_, g4 _ _ (g3 _ _ hD), by rw [List.length_map, List.length_map, List.length_range]; omega, fun b o eb => ?_, ?_⟩
            · rw [upd_ne (ne_of_none eb nD)]
              exact g4 _ _ (g3 _ _ (g _ _ eb))
            · rw [upd_same, List.range_succ, List.map_append, List.map_append]
              have er : rowBf ls es k = okElf ls k e := by
                unfold rowBf
                rw [he]
              show _ = some (HO.lst (_ ++ [V.bl (rowBf ls es k)]))
              rw [er]
          · rintro H2 ⟨g, hD⟩
            refine ⟨D, (List.range es.length).map (rowBf ls es), rfl, .inl (.inl (by rw [← hl]; exact hD)), ?_⟩
            have ea : ((List.range es.length).map (rowBf ls es)).all id = okElsf ls es := by
              rw [List.all_map]
              rfl
            rw [ea]
            exact q H2 (g1.trans g)
        · refine if_pos_of (by rw [decide_eq_false c2]; decide) ?_
          rw [bad (by omega)] at q
          exact q H1 g1
      · refine if_neg_of (by rw [decide_eq_false c1]; decide) ⟨false, rfl, if_pos_of (by decide) ?_⟩
        rw [bad (by omega)] at q
        exact q H1 g1
theorem scNeedF : FnScope ["letters", "formula"] ["letters", "formula"] (defScope sNeedF) := ⟨rfl, rfl, rfl, by decide +kernel, rfl, by decide +kernel, by decide +kernel⟩
theorem ok_needF {f f1 CN CF CS : Addr} {fd fd1 : FuncData} (F : L2.Fun K "need_formula" "need_formula" sNeedF f fd) (EF : ErrC K mg "NoFormula" CF CS)
    (G1 : FnOk P w K mg base (L2.CX P w) 4 f1 fd1 ["letters", "thing"] (spIsF K CN)) (D1 : Def mg K "is_formula" f1 fd1 ["letters", "thing"]) : FnOk P w K mg base (L2.CX P w) 5 f fd ["letters", "formula"] (spNeedF K CN CF) := by
  refine F.okX scNeedF (fun vs H Q E h => ?_) (fun cdv A outer s H vs Q E hr h => ⟨_,
    pss_one (ps_if (pt_not (pt_truth (pe_call G1 hr (by rfl) D1.g D1.k D1.b .nil (passes_call (takes_of rfl rfl rfl rfl) fun _ _ _ _ h => h) (pa_cons (pv 0) (pa_cons (pv 1) pa_nil))) (by intro _; rfl)))
      (pss_one (ps_raise rfl (takes_of rfl rfl rfl rfl) (pmk_own PySem.F.excBase_ValueError EF.xC EF.gC EF.kC (raises_own EF.bC EF.tC) rfl))) pss_nil), ?_⟩)
  · obtain ⟨x, v, rfl, _⟩ := h
    rfl
  · obtain ⟨x, v, rfl, h⟩ := h
    refine ⟨_, rfl, _, rfl, x, v, rfl, ?_⟩
    rcases h with h | ⟨ls, rfl, hls, hok, th, hv, hin, h⟩
    · exact .inl h
    refine .inr ⟨ls, rfl, hls, hok, th, hv, hin, fun H' g => ?_⟩
    rcases h with ⟨e, h⟩ | ⟨e, h⟩
    · rw [e]
      exact ⟨false, rfl, if_pos_of (by decide) (h H' g)⟩
    · rw [e]
      exact ⟨true, rfl, if_neg_of (by decide) (h H' g)⟩
end
end SWL
set_option Elab.async false
set_option linter.all false
set_option maxRecDepth 100000
set_option maxHeartbeats 8000000
namespace SWL
open PySem PySem.Spec PyProof.Rows L2 LamX
/-! rows: their words, what they hang on, what is true of them -/
def Rf.word : Rf → Str
  | .tru => "true"
  | .let_ _ => "letter"
  | .nt _ => "not"
  | .an _ _ => "and"
  | .or_ _ _ => "or"
  | .nx _ => "next"
  | .la _ => "later"
  | .un _ _ => "until"
  | .be _ => "before"
  | .ea _ => "earlier"
  | .si _ _ => "since"
def Rf.rest : Rf → List V
  | .tru => []
  | .let_ c => [.str (sg c)]
  | .nt i => [nV i]
  | .an i j => [nV i, nV j]
  | .or_ i j => [nV i, nV j]
  | .nx i => [nV i]
  | .la i => [nV i]
  | .un i j => [nV i, nV j]
  | .be i => [nV i]
  | .ea i => [nV i]
  | .si i j => [nV i, nV j]
theorem Rf.vs_eq (r : Rf) : r.vs = .str r.word :: r.rest := by cases r <;> rfl
theorem Rf.word0 (r : Rf) : atI r.vs 0 = some (.str r.word) := by
  rw [r.vs_eq]
  exact atI_nat (j := 0) rfl
theorem Rf.notLetter {r : Rf} (h : r.word ≠ "letter") : r.rest = r.refs.map nV := by
  cases r with
  | let_ c => exact absurd rfl h
  | _ => rfl
theorem Rf.letter {r : Rf} (h : r.word = "letter") : r.refs = [] := by
  cases r with
  | let_ c => rfl
  | tru => rfl
  | nt i => exact absurd h (show ¬ ("not" : Str) = "letter" by decide +kernel)
  | an i j => exact absurd h (show ¬ ("and" : Str) = "letter" by decide +kernel)
  | or_ i j => exact absurd h (show ¬ ("or" : Str) = "letter" by decide +kernel)
  | nx i => exact absurd h (show ¬ ("next" : Str) = "letter" by decide +kernel)
  | la i => exact absurd h (show ¬ ("later" : Str) = "letter" by decide +kernel)
  | un i j => exact absurd h (show ¬ ("until" : Str) = "letter" by decide +kernel)
  | be i => exact absurd h (show ¬ ("before" : Str) = "letter" by decide +kernel)
  | ea i => exact absurd h (show ¬ ("earlier" : Str) = "letter" by decide +kernel)
  | si i j => exact absurd h (show ¬ ("since" : Str) = "letter" by decide +kernel)
theorem Rf.refs_len (r : Rf) : r.refs.length ≤ 2 := by cases r <;> simp [Rf.refs]
def Rf.fut : Rf → Bool
  | .nx _ => true
  | .la _ => true
  | .un _ _ => true
  | _ => false
def Rf.past : Rf → Bool
  | .be _ => true
  | .ea _ => true
  | .si _ _ => true
  | _ => false
theorem Rf.turned_eq (r : Rf) : r.turned = (r.fut || r.past) := by cases r <;> rfl
/-- the tables FUTURE and PAST -/
structure TimesK (K : PySem.W.Frag) (w : World) (mg : Str → Option Value) (dU dP : Addr) : Prop where
  gU : mg "FUTURE" = some (.ref dU)
  gP : mg "PAST" = some (.ref dP)
  kU : ∃ es n, KDict K w dU es n
  kP : ∃ es n, KDict K w dP es n
  aU : ∀ r : Rf, ∃ o, PySem.W.nsIn K dU r.word = some o ∧ o.isSome = r.fut
  aP : ∀ r : Rf, ∃ o, PySem.W.nsIn K dP r.word = some o ∧ o.isSome = r.past
def spElders : Sp := fun vs H Q _ => ∃ (a : Addr) (r : Rf), vs = [.ref a] ∧ H a = some (.tup r.vs) ∧ ∀ p H', Grows H H' → H' p = some (.tup (r.refs.map nV)) → Q (.ref p) H'
def spIsTurned : Sp := fun vs H Q _ => ∃ (a : Addr) (r : Rf), vs = [.ref a] ∧ H a = some (.tup r.vs) ∧ Q (.bl r.turned) H
def aheadB (r : Rf) (tv : Nat → Bool) (h : Bool) : Bool := match r with
  | .nx i => tv i
  | .la i => tv i || h
  | .un i j => tv j || (tv i && h)
  | .be i => tv i
  | .ea i => tv i || h
  | .si i j => tv j || (tv i && h)
  | _ => false
def RowDict (H : Hp) (a d : Addr) (r : Rf) (tv : Nat → Bool) : Prop := H a = some (.tup r.vs) ∧ ∃ kvs : List (Key × V), H d = some (.dK kvs) ∧ ∀ i ∈ r.refs, valV kvs (.inl ((i : Nat) : Int)) = some (.bl (tv i))
def spAhead : Sp := fun vs H Q _ => ∃ (a d : Addr) (r : Rf) (h : Bool) (tv : Nat → Bool), vs = [.ref a, .ref d, .bl h] ∧ r.fut = true ∧ RowDict H a d r tv ∧ Q (.bl (aheadB r tv h)) H
def spBehindIt : Sp := fun vs H Q _ => ∃ (a d : Addr) (r : Rf) (h : Bool) (tv : Nat → Bool), vs = [.ref a, .ref d, .bl h] ∧ r.past = true ∧ RowDict H a d r tv ∧ Q (.bl (aheadB r tv h)) H
def spFDepth (K : PySem.W.Frag) (CN CF : Addr) : Sp := fun vs H Q E => ∃ x v, vs = [x, v] ∧ LetOr K CN H x E fun ls => (∃ th, ThAt K H v th ∧ ThIn th ∧ okThf ls th = false ∧ ∀ H', Grows H H' → E (.ref CF) none H') ∨
  ∃ F : List Rf, FormAtf H v F ∧ FOkf ls F ∧ 1 ≤ F.length ∧ F.length ≤ 100 ∧ (∀ c ∈ ls.cps.toList, c < 0x110000) ∧ ∀ H', Grows H H' → Q (nV ((depsf F).getD (F.length - 1) 0)) H'
section
variable {P : Program} {w : World} {K : PySem.W.Frag} {mg : Str → Option Value} {base : Heap}
end
def tOff (r : Rf) (lt : Option Nat) (tv : Nat → Bool) (turned : Bool) : Bool := match r with
  | .tru => true
  | .let_ c => decide (lt = some c)
  | .nt i => !tv i
  | .an i j => tv i && tv j
  | .or_ i j => tv i || tv j
  | .la _ => turned
  | .ea _ => turned
  | .nx _ => turned
  | .un _ _ => turned
  | .be _ => turned
  | .si _ _ => turned
def spPlainT : Sp := fun vs H Q _ => ∃ (a d : Addr) (r : Rf) (lt : Option Nat) (t : Bool) (kvs : List (Key × V)) (tv : Nat → Bool), vs = [.ref a, ltV lt, .ref d, .bl t] ∧ H a = some (.tup r.vs) ∧ H d = some (.dK kvs) ∧ (∀ i ∈ r.refs, valV kvs (.inl ((i : Nat) : Int)) = some (.bl (tv i))) ∧ Q (.bl (tOff r lt tv t)) H
section
variable {P : Program} {w : World} {K : PySem.W.Frag} {mg : Str → Option Value} {base : Heap}
end
end SWL
set_option Elab.async false
set_option linter.all false
set_option maxRecDepth 100000
set_option maxHeartbeats 8000000
namespace SWL
open PySem PySem.Spec PyProof.Rows L2 LamX
/-! a drawn formula with all words -/
structure RowsAtf (H : Hp) (R : Addr) (F : List Rf) (as : List Addr) : Prop where
  at_ : H R = some (.lst (as.map V.ref))
  len : as.length = F.length
  row : ∀ (k : Nat) (a : Addr) (r : Rf), as[k]? = some a → F[k]? = some r → H a = some (.tup r.vs)
theorem RowsAtf.row' {H : Hp} {R : Addr} {F : List Rf} {as : List Addr} (t : RowsAtf H R F as) {a : Addr} (h : a ∈ as) : ∃ xs, H a = some (.tup xs) := by
  obtain ⟨k, hk⟩ := List.getElem?_of_mem h
  have kl := (List.getElem?_eq_some_iff.mp hk).1
  exact ⟨_, t.row k a _ hk (List.getElem?_eq_getElem (by have := t.len; omega))⟩
theorem RowsAtf.keep {H H' : Hp} {R : Addr} {F : List Rf} {as : List Addr} (t : RowsAtf H R F as) (g : ∀ b xs, H b = some (.tup xs) → H' b = some (.tup xs)) (h : H' R = some (.lst (as.map V.ref))) : RowsAtf H' R F as :=
  ⟨h, t.len, fun k a r h1 h2 => g _ _ (t.row k a r h1 h2)⟩
theorem RowsAtf.but {H H' : Hp} {a g R : Addr} {F : List Rf} {as : List Addr} (t : RowsAtf H R F as) (x : But H H' a g) (o : Off H a g) (n : R ≠ g) : RowsAtf H' R F as := by
  obtain ⟨ks, h1⟩ := o.st
  exact t.keep (x.tups o) (x R _ t.at_ (ne_of t.at_ h1 (by intro z; cases z)) n)
theorem RowsAtf.grows {H H' : Hp} {R : Addr} {F : List Rf} {as : List Addr} (t : RowsAtf H R F as) (x : Grows H H') : RowsAtf H' R F as := t.keep (fun b xs e => x _ _ e) (x _ _ t.at_)
theorem RowsAtf.snoc {H : Hp} {R q : Addr} {F : List Rf} {as : List Addr} {r : Rf} (t : RowsAtf H R F as) (hq : H q = some (.tup r.vs)) : RowsAtf (upd H R (.lst (as.map V.ref ++ [.ref q]))) R (F ++ [r]) (as ++ [q]) := by
  refine ⟨by rw [upd_same, List.map_append]; rfl, by rw [List.length_append, List.length_append, t.len]; rfl, fun k b s hb hs => ?_⟩
  have un : ∀ {c : Addr} {xs : List V}, H c = some (.tup xs) → upd H R (.lst (as.map V.ref ++ [.ref q])) c = some (.tup xs) := fun e => by
    rw [upd_ne (ne_of e t.at_ (by intro z; cases z))]
    exact e
  by_cases c : k < as.length
  · rw [List.getElem?_append_left c] at hb
    rw [List.getElem?_append_left (by have := t.len; omega)] at hs
    exact un (t.row k b s hb hs)
  · have h0 : k - as.length = 0 := by
      have := (List.getElem?_eq_some_iff.mp hb).1
      rw [List.length_append, List.length_singleton] at this
      omega
    have tl := t.len
    rw [List.getElem?_append_right (by omega), h0] at hb
    rw [List.getElem?_append_right (by omega), show k - F.length = 0 by omega] at hs
    obtain rfl : q = b := Option.some.inj hb
    obtain rfl : r = s := Option.some.inj hs
    exact un hq
def turnW : List Str := ["next", "later", "until", "before", "earlier", "since"]
def opsLf : List Str := "not" :: "and" :: "or" :: turnW
def sizeOf' (w : Str) : Nat := if w = "and" ∨ w = "or" ∨ w = "until" ∨ w = "since" then 2 else 1
theorem mk_rowf {w : Str} (hw : w ∈ opsLf) {is : List Nat} (hl : is.length = sizeOf' w) : ∃ r : Rf, r.vs = .str w :: is.map nV ∧ r.refs = is ∧ ∀ c, r ≠ .let_ c := by
  have h1 : is.length = 1 → ∃ i, is = [i] := fun h => by
    match is, h with
    | [i], _ => exact ⟨i, rfl⟩
  have h2 : is.length = 2 → ∃ i j, is = [i, j] := fun h => by
    match is, h with
    | [i, j], _ => exact ⟨i, j, rfl⟩
  simp only [opsLf, turnW, List.mem_cons, List.not_mem_nil, or_false, List.cons_append, List.nil_append] at hw
  rcases hw with rfl | rfl | rfl | rfl | rfl | rfl | rfl | rfl | rfl
  · obtain ⟨i, rfl⟩ := h1 (hl.trans (by decide +kernel))
    exact ⟨.nt i, rfl, rfl, fun c e => by cases e⟩
  · obtain ⟨i, j, rfl⟩ := h2 (hl.trans (by decide +kernel))
    exact ⟨.an i j, rfl, rfl, fun c e => by cases e⟩
  · obtain ⟨i, j, rfl⟩ := h2 (hl.trans (by decide +kernel))
    exact ⟨.or_ i j, rfl, rfl, fun c e => by cases e⟩
  · obtain ⟨i, rfl⟩ := h1 (hl.trans (by decide +kernel))
    exact ⟨.nx i, rfl, rfl, fun c e => by cases e⟩
  · obtain ⟨i, rfl⟩ := h1 (hl.trans (by decide +kernel))
    exact ⟨.la i, rfl, rfl, fun c e => by cases e⟩
  · obtain ⟨i, j, rfl⟩ := h2 (hl.trans (by decide +kernel))
    exact ⟨.un i j, rfl, rfl, fun c e => by cases e⟩
  · obtain ⟨i, rfl⟩ := h1 (hl.trans (by decide +kernel))
    exact ⟨.be i, rfl, rfl, fun c e => by cases e⟩
  · obtain ⟨i, rfl⟩ := h1 (hl.trans (by decide +kernel))
    exact ⟨.ea i, rfl, rfl, fun c e => by cases e⟩
  · obtain ⟨i, j, rfl⟩ := h2 (hl.trans (by decide +kernel))
    exact ⟨.si i j, rfl, rfl, fun c e => by cases e⟩
theorem dp_strs {K : PySem.W.Frag} {H : Hp} : ∀ {l : List Str}, DpAll K H (l.map V.str) (l.map PyData.str)
  | [] => .nil
  | x :: l => .cons (.str x) dp_strs
theorem turn_small : ∀ w ∈ turnW, w.length ≤ 1000 ∧ PyData.strOk w = true := by decide +kernel
theorem flat_strs (ws : List Str) : (ws.map V.str).all flatV = true := by
  rw [List.all_map, List.all_eq_true]
  intro b _
  rfl
theorem shaped_words {ws : List Str} (h : ∀ w ∈ ws, w ∈ turnW) : SeqAt.shaped (.list (ws.map PyData.str)) = true := by
  have := fl_can (xs := ws.map V.str) (fun z hz => by
    obtain ⟨w, hw, e⟩ := List.mem_map.mp hz
    rw [← V.str.inj e]
    exact turn_small w (h w hw))
  rw [List.map_map] at this
  have e : (flD ∘ V.str : Str → PyData) = PyData.str := rfl
  rw [e] at this
  unfold SeqAt.shaped
  rw [PyData.canLay0, this.1, PyData.depth, this.2]
  decide
theorem eqv_words (ws : List Str) : PyData.eqv (.list (ws.map PyData.str)) (.list []) = decide (ws = []) := by
  cases ws <;> rfl
theorem in_four (w : Str) : inV (.str w) [.str "and", .str "or", .str "until", .str "since"] = decide (w = "and" ∨ w = "or" ∨ w = "until" ∨ w = "since") := by
  have e : ∀ z : Str, eqV (.str z) (.str w) = decide (w = z) := fun z => by
    show (z == w) = decide (w = z)
    rw [Bool.eq_iff_iff, beq_iff_eq, decide_eq_true_eq]
    exact ⟨fun h => h.symm, fun h => h.symm⟩
  show (eqV (.str "and") (.str w) || (eqV (.str "or") (.str w) || (eqV (.str "until") (.str w) || (eqV (.str "since") (.str w) || false)))) = _
  rw [e, e, e, e, Bool.or_false, Bool.eq_iff_iff]
  simp only [Bool.or_eq_true, decide_eq_true_eq]
theorem in_two (w : Str) : inV (.str w) [.str "until", .str "since"] = decide (w = "until" ∨ w = "since") := by
  have e : ∀ z : Str, eqV (.str z) (.str w) = decide (w = z) := fun z => by
    show (z == w) = decide (w = z)
    rw [Bool.eq_iff_iff, beq_iff_eq, decide_eq_true_eq]
    exact ⟨fun h => h.symm, fun h => h.symm⟩
  show (eqV (.str "until") (.str w) || (eqV (.str "since") (.str w) || false)) = _
  rw [e, e, Bool.or_false, Bool.eq_iff_iff]
  simp only [Bool.or_eq_true, decide_eq_true_eq]
theorem size_turn {w : Str} (h : w ∈ turnW) : sizeOf' w = if w = "until" ∨ w = "since" then 2 else 1 := by
  simp only [turnW, List.mem_cons, List.not_mem_nil, or_false] at h
  rcases h with rfl | rfl | rfl | rfl | rfl | rfl <;> decide +kernel
def spSomeFull : Sp := fun vs H Q _ => ∃ (a g c W : Addr) (cs : List Int) (n m : Nat) (ls : Str) (ws : List Str), vs = [.ref a, .str ls, .int ((m : Nat) : Int), .ref W] ∧ 0 < ls.length ∧ ls.length ≤ 10 ∧ 1 ≤ m ∧ m ≤ 20 ∧ H W = some (.lst (ws.map V.str)) ∧ W ≠ g ∧ ws.length ≤ 8 ∧ (∀ w ∈ ws, w ∈ turnW) ∧ SAt H a g c cs n ∧ n + 200 ≤ 1000000 ∧
  ∀ H' v F, FormAtf H' v F → FOkf ls F → 1 ≤ F.length → F.length ≤ ls.length + m + 2 → SAt H' a g c cs (n + 200) → But H H' a g → Q v H'
abbrev NFf : List Str := ["state", "letters", "many", "words", "rows", "turned", "lap", "word", "size", "letter", "at"]
section
variable {P : Program} {w : World} {K : PySem.W.Frag} {mg : Str → Option Value} {base : Heap}
theorem scSomeFull : FnScope NFf ["state", "letters", "many", "words"] (defScope sSomeFull) := ⟨rfl, rfl, rfl, by decide +kernel, rfl, by decide +kernel, by decide +kernel⟩
theorem ok_someFull {f f1 f2 : Addr} {fd fd1 fd2 : FuncData} (F : L2.Fun K "_law_some_full" "_law_some_full" sSomeFull f fd) (B : Blt mg)
    (G1 : FnOk P w K mg base CX0 2 f1 fd1 ["state", "room"] spDraw) (D1 : Def mg K "_law_draw" f1 fd1 ["state", "room"])
    (G2 : FnOk P w K mg base CX0 3 f2 fd2 ["state", "some"] spPick) (D2 : Def mg K "_law_pick" f2 fd2 ["state", "some"]) : FnOk P w K mg base CX0 4 f fd ["state", "letters", "many", "words"] spSomeFull := by
  refine F.ok scSomeFull (fun vs H Q E h => ?_) (fun cdv A outer s H vs Q E hr h => ⟨_,
    (pss_cons (ps_asg (pe_tup (pa_cons (pe_op op_cat (pe_lc (own := [("letter", 9)]) (g := (gName 9)) (tt := tYes) (te := (tTup (tCons (tC (.str "letter")) (tCons (tVar 9) tNil)))) rfl scSomeFull.nd (pi_str (pv 1)) (blkOk_by (N := NFf) (sc := defScope sSomeFull) (by decide +kernel)) (fun _ _ _ _ _ => (pg_name (i := 9) scSomeFull.nd rfl (Or.inl rfl))) (fun _ _ _ _ _ => pts_nil) (fun _ _ _ _ _ => (pe_tup (pa_cons pe_str (pa_cons (pv 9) pa_nil))))) (pe_lst (pa_cons (pe_tup (pa_cons pe_str pa_nil)) pa_nil))) (pa_cons pe_int pa_nil))) (pg_tup rfl (pgs_cons (pg_name (i := 4) scSomeFull.nd rfl (Or.inr rfl)) (pgs_cons (pg_name (i := 5) scSomeFull.nd rfl (Or.inl rfl)) pgs_nil))))
      (pss_cons (ps_for PassesOwn.never rfl (pi_range1 (by rfl) B.range (pa_cons (pe_op op_add pe_int (pe_call G1 (hr.mono (by decide)) (by rfl) D1.g D1.k D1.b .nil pass0 (pa_cons (pv 0) (pa_cons (pv 2) pa_nil)))) pa_nil)) (pg_name (i := 6) scSomeFull.nd rfl (Or.inl rfl)) (pss_cons (ps_set (i := 7) scSomeFull.nd rfl (Or.inl rfl) (pe_call G2 hr (by rfl) D2.g D2.k D2.b .nil pass0 (pa_cons (pv 0) (pa_cons (pe_ifExp (PW.pt (pw_and (pt_cmpR op_lt (pv 5) pe_int (nomark _)) (pw_and1 (pt_cmpR (op_neD (by have := hr.un; show (A.deeper _).units + 64 < _; omega)) (pv 3) (pe_lst pa_nil) (nomark _))))) (pe_op op_cat (pe_op op_cat (pe_lst (pa_cons pe_str (pa_cons pe_str (pa_cons pe_str pa_nil)))) (pv 3)) (pv 3)) (pe_lst (pa_cons pe_str (pa_cons pe_str (pa_cons pe_str pa_nil))))) pa_nil))))
      (pss_cons (ps_set (i := 5) scSomeFull.nd rfl (Or.inl rfl) (pe_op op_add (pv 5) (pe_callTy call_int1 (by rfl) B.int (by decide +kernel) (pa_cons (pe_cmpR op_in_seq (pv 7) (pv 3) rfl) pa_nil))))
      (pss_cons (ps_set (i := 8) scSomeFull.nd rfl (Or.inl rfl) (pe_ifExp (pt_cmpR op_in_seq (pv 7) (pe_tup (pa_cons pe_str (pa_cons pe_str (pa_cons pe_str (pa_cons pe_str pa_nil))))) rfl) pe_int pe_int))
      (pss_one (ps_expr (pe_bm PySem.F.plainAttrs_list PySem.F.slot_list_append PySem.F.type_list_append mt_append (pv 4) (pa_cons (pe_op op_catT (pe_tup (pa_cons (pv 7) pa_nil)) (pe_callTy call_tuple_of (by rfl) B.tuple (by decide +kernel) (pa_cons (pe_lc (own := [("at", 10)]) (g := (gName 10)) (tt := tYes) (te := (tIf (tTest (tOp rEq (tCall spDraw [] E0 (tCons (tVar 0) (tCons (tC (.int 2)) tNil))) (tC (.int 0)))) (tCall spDraw [] E0 (tCons (tVar 0) (tCons (tCB (fun xs H Q => ∃ p ys, xs = [.ref p] ∧ (SqL K H p ys ∨ SqT K H p ys) ∧ Q (.int (ys.length : Int)) H) (tCons (tVar 4) tNil)) tNil))) (tOp rSub (tCB (fun xs H Q => ∃ p ys, xs = [.ref p] ∧ (SqL K H p ys ∨ SqT K H p ys) ∧ Q (.int (ys.length : Int)) H) (tCons (tVar 4) tNil)) (tC (.int 1))))) rfl scSomeFull.nd (pi_range1 (by rfl) B.range (pa_cons (pv 8) pa_nil)) (blkOk_by (N := NFf) (sc := defScope sSomeFull) (by decide +kernel)) (fun _ _ _ _ _ => (pg_name (i := 10) scSomeFull.nd rfl (Or.inl rfl))) (fun _ _ _ _ _ => pts_nil) (fun _ _ _ _ _ => (pe_ifExp (pt_cmpR op_eq (pe_call G1 (hr.mono (by decide)) (by rfl) D1.g D1.k D1.b .nil pass0 (pa_cons (pv 0) (pa_cons pe_int pa_nil))) pe_int (nomark _)) (pe_call G1 (hr.mono (by decide)) (by rfl) D1.g D1.k D1.b .nil pass0 (pa_cons (pv 0) (pa_cons (pe_callB call_len_seq (by rfl) B.len PySem.boot_len (pa_cons (pv 4) pa_nil)) pa_nil))) (pe_op op_sub (pe_callB call_len_seq (by rfl) B.len PySem.boot_len (pa_cons (pv 4) pa_nil)) pe_int)))) pa_nil))) pa_nil))))))))
      (pss_cons (ps_if (PW.pt (pw_and (pt_cmpR op_lt (pv 5) pe_int (nomark _)) (pw_and (pt_cmpR (op_neD (by have := hr.un; show (A.deeper _).units + 64 < _; omega)) (pv 3) (pe_lst pa_nil) (nomark _)) (pw_and1 (pt_cmpR op_gt (pe_call G1 (hr.mono (by decide)) (by rfl) D1.g D1.k D1.b .nil pass0 (pa_cons (pv 0) (pa_cons pe_int pa_nil))) pe_int (nomark _)))))) (pss_cons (ps_set (i := 7) scSomeFull.nd rfl (Or.inl rfl) (pe_call G2 hr (by rfl) D2.g D2.k D2.b .nil pass0 (pa_cons (pv 0) (pa_cons (pv 3) pa_nil))))
      (pss_one (ps_expr (pe_bm PySem.F.plainAttrs_list PySem.F.slot_list_append PySem.F.type_list_append mt_append (pv 4) (pa_cons (pe_op op_catT (pe_tup (pa_cons (pv 7) pa_nil)) (pe_callTy call_tuple_of (by rfl) B.tuple (by decide +kernel) (pa_cons (pe_lc (own := [("at", 10)]) (g := (gName 10)) (tt := tYes) (te := (tOp rSub (tOp rSub (tCB (fun xs H Q => ∃ p ys, xs = [.ref p] ∧ (SqL K H p ys ∨ SqT K H p ys) ∧ Q (.int (ys.length : Int)) H) (tCons (tVar 4) tNil)) (tC (.int 1))) (tVar 10))) rfl scSomeFull.nd (pi_range1 (by rfl) B.range (pa_cons (pe_ifExp (pt_cmpR op_in_seq (pv 7) (pe_tup (pa_cons pe_str (pa_cons pe_str pa_nil))) rfl) pe_int pe_int) pa_nil)) (blkOk_by (N := NFf) (sc := defScope sSomeFull) (by decide +kernel)) (fun _ _ _ _ _ => (pg_name (i := 10) scSomeFull.nd rfl (Or.inl rfl))) (fun _ _ _ _ _ => pts_nil) (fun _ _ _ _ _ => (pe_op op_sub (pe_op op_sub (pe_callB call_len_seq (by rfl) B.len PySem.boot_len (pa_cons (pv 4) pa_nil)) pe_int) (pv 10)))) pa_nil))) pa_nil))))) pss_nil)
      (pss_one (ps_ret (pe_callTy call_tuple_of (by rfl) B.tuple (by decide +kernel) (pa_cons (pv 4) pa_nil))))))), ?_⟩)
  · obtain ⟨a, g, c, W, cs, n, m, ls, ws, rfl, _⟩ := h
    rfl
  · obtain ⟨a, g, c, W, cs, n, m, ls, ws, rfl, hp, hl, hm1, hm, hW, Wg, wl, hws, hs, hn, q⟩ := h
    have sz : sizeLine = 16777216 := sizeLine_eq
    have ll : ls.cps.toList.length = ls.length := cut_len ls
    have wt : ∀ w ∈ ws, w ∈ opsLf := fun w h => List.mem_cons_of_mem _ (List.mem_cons_of_mem _ (List.mem_cons_of_mem _ (hws w h)))
    -- rows, turned
    refine ⟨_, rfl, ls, rfl, fun D0 nD0 => ?_⟩
    refine lc_it (walk_signs ls) (fun j H' => Grows H H' ∧ ∃ as, RowsAtf H' D0 ((ls.cps.toList.take j).map Rf.let_) as) ⟨Grows.new nD0, [], upd_same, rfl, fun k a r h => by cases h⟩ (fun _ _ _ _ => trivial) ?_ ?_
    · rintro j x H1x H1 hj ⟨g1, as, t1⟩ ⟨rfl, hx⟩
      rw [signs_len] at hj
      obtain ⟨d, hd⟩ : ∃ d, ls.cps.toList[j]? = some d := ⟨_, List.getElem?_eq_getElem (by omega)⟩
      unfold signsV at hx
      rw [List.getElem?_map, hd] at hx
      obtain rfl := Option.some.inj hx
      refine ⟨rfl, ?_⟩
      refine ⟨_, rfl, by show 2 ≤ sizeLine; omega, fun q nq => ?_⟩
      have gq : Grows H1 (upd H1 q (.tup [.str "letter", .str ⟨#[d]⟩])) := Grows.new nq
      have kq : upd H1 q (.tup [.str "letter", .str ⟨#[d]⟩]) q = some (.tup (Rf.let_ d).vs) := upd_same
      generalize upd H1 q (.tup [.str "letter", .str ⟨#[d]⟩]) = H2 at gq kq ⊢
      have t2 := t1.grows gq
      refine ⟨_, t2.at_, by rw [List.length_map, t2.len, List.length_map, List.length_take]; omega, fun b o e => ?_, as ++ [q], ?_⟩
      · rw [upd_ne (ne_of_none e nD0)]
        exact gq _ _ (g1 _ _ e)
      · have := t2.snoc kq
        rw [take_snoc hd, List.map_append]
        exact this
    rintro H1 ⟨g1, as1, t1⟩
    have e1 : ls.cps.toList.take (signsV ls).length = ls.cps.toList := by rw [signs_len, ← ll, List.take_length]
    rw [e1] at t1
    refine ⟨by show 1 ≤ sizeLine; omega, fun tt0 ntt0 => ?_⟩
    have gt0 : Grows H1 (upd H1 tt0 (.tup [.str "true"])) := Grows.new ntt0
    have kt0 : upd H1 tt0 (.tup [.str "true"]) tt0 = some (.tup Rf.tru.vs) := upd_same
    have t1 := t1.grows gt0
    have g1 := g1.trans gt0
    generalize upd H1 tt0 (.tup [.str "true"]) = H1 at t1 g1 kt0 ⊢
    refine ⟨by show 1 ≤ sizeLine; omega, fun l0 nl0 => ?_⟩
    have gl0 : Grows H1 (upd H1 l0 (.lst [.ref tt0])) := Grows.new nl0
    have kl0 : upd H1 l0 (.lst [.ref tt0]) l0 = some (.lst [.ref tt0]) := upd_same
    have t1 := t1.grows gl0
    have kt1 := gl0 _ _ kt0
    have g1 := g1.trans gl0
    generalize upd H1 l0 (.lst [.ref tt0]) = H1 at t1 g1 kt1 kl0 ⊢
    have lf0 : (ls.cps.toList.map Rf.let_).length = ls.length := by rw [List.length_map, ll]
    refine ⟨D0, l0, as1.map V.ref, [.ref tt0], rfl, rfl, t1.at_, kl0, by rw [List.length_map, t1.len, lf0]; simp only [List.length_singleton]; omega, fun D nD1 => ?_⟩
    have gD : Grows H1 (upd H1 D (.lst (as1.map V.ref ++ [.ref tt0]))) := Grows.new nD1
    have kD : upd H1 D (.lst (as1.map V.ref ++ [.ref tt0])) D = some (.lst ((as1 ++ [tt0]).map V.ref)) := by rw [upd_same, List.map_append]; rfl
    have nD : H D = none := by
      cases e : H D with
      | none => rfl
      | some o => rw [g1 _ _ e] at nD1; cases nD1
    obtain ⟨Da, Dg, Dc⟩ := hs.fresh nD
    have t1 : RowsAtf (upd H1 D (.lst (as1.map V.ref ++ [.ref tt0]))) D (ls.cps.toList.map Rf.let_ ++ [.tru]) (as1 ++ [tt0]) := by
      refine ⟨kD, by rw [List.length_append, List.length_append, t1.len]; rfl, fun k b s hb hs => gD _ _ ?_⟩
      have tl := t1.len
      by_cases c : k < as1.length
      · rw [List.getElem?_append_left c] at hb
        rw [List.getElem?_append_left (by omega)] at hs
        exact t1.row k b s hb hs
      · have h0 : k - as1.length = 0 := by
          have := (List.getElem?_eq_some_iff.mp hb).1
          rw [List.length_append, List.length_singleton] at this
          omega
        rw [List.getElem?_append_right (by omega), h0] at hb
        rw [List.getElem?_append_right (by omega), show k - (ls.cps.toList.map Rf.let_).length = 0 by omega] at hs
        obtain rfl : tt0 = b := Option.some.inj hb
        obtain rfl : Rf.tru = s := Option.some.inj hs
        exact kt1
    have g1 := g1.trans gD
    generalize upd H1 D (.lst (as1.map V.ref ++ [.ref tt0])) = H1 at t1 g1 ⊢
    clear kD gD
    refine ⟨by show 2 ≤ sizeLine; omega, fun tp ntp => ?_⟩
    have g2 := Grows.new (o := .tup [.ref D, .int 0]) ntp
    refine ⟨tp, _, rfl, .inl (.inl upd_same), rfl, _, _, rfl, _, _, rfl, rfl, ?_⟩
    have t2 := t1.grows g2
    have s2 := hs.grows (g1.trans g2)
    have b2 : But H (upd H1 tp (.tup [.ref D, .int 0])) a g := But.of (g1.trans g2)
    generalize upd H1 tp (.tup [.ref D, .int 0]) = H2 at t2 s2 b2 ⊢
    clear t1 g1 g2 ntp
    have Wa : W ≠ a := by
      obtain ⟨ks, h1⟩ := hs.off.st
      exact ne_of hW h1 (by intro z; cases z)
    have kW : ∀ {H' : Hp}, But H H' a g → H' W = some (.lst (ws.map V.str)) := fun b => b _ _ hW Wa Wg
    -- the laps
    refine ⟨_, rfl, _, rfl, a, g, c, cs, n, _, rfl, s2, by omega, by omega, by omega, fun H3 k k0 k1 s3 b3 => ⟨_, _, rfl, rfl, _, rfl, by omega, by omega, ?_⟩⟩
    have t3 := t2.but b3 s2.off Dg
    have b3 := b2.trans b3
    clear t2 s2 b2
    obtain ⟨k, rfl⟩ : ∃ j : Nat, k = j := ⟨k.toNat, by omega⟩
    have lf : (ls.cps.toList.map Rf.let_ ++ [Rf.tru]).length = ls.length + 1 := by rw [List.length_append, lf0]; rfl
    have okF : FOkf ls (ls.cps.toList.map Rf.let_ ++ [Rf.tru]) := by
      refine FOkf.snoc (fun i r hi => ?_) ⟨fun j hj => (by cases hj), fun c' hc' => by cases hc'⟩
      rw [List.getElem?_map] at hi
      cases e : ls.cps.toList[i]? with
      | none => rw [e] at hi; cases hi
      | some d =>
        rw [e] at hi
        obtain rfl := Option.some.inj hi
        exact ⟨fun j hj => (by cases hj), fun c' hc' => by cases hc'; exact List.mem_of_getElem? e⟩
    refine for_it walk_range (fun j σ H' => (∃ (tn : Int) (v6 v7 v8 v9 v10 : Option V), σ = [some (.ref a), some (.str ls), some (.int ((m : Nat) : Int)), some (.ref W), some (.ref D), some (.int tn), v6, v7, v8, v9, v10]) ∧ SAt H' a g c cs (n + 1 + 6 * j) ∧ But H H' a g ∧ ∃ Fs as, RowsAtf H' D Fs as ∧ FOkf ls Fs ∧ Fs.length = ls.length + 1 + j)
      ⟨⟨0, _, _, _, _, _, rfl⟩, s3, b3, _, _, t3, okF, lf⟩ (fun _ _ _ _ _ => trivial) ?_ ?_
    · rintro j x σ H4x H4 hj ⟨⟨tn, v6, v7, v8, v9, v10, rfl⟩, s4, b4, Fs, as, t4, ok4, fl4⟩ ⟨rfl, rfl⟩
      have hj : j < 1 + k := by omega
      -- word
      refine ⟨_, rfl, ?_⟩
      refine (?_ : tIf _ _ _ _ _ ?Q2)
      have fin2 : ∀ (l : Addr) (H8 : Hp) (ys : List V), Grows H4 H8 → H8 l = some (.lst ys) → l ≠ g → ys ≠ [] → ys.length ≤ 30 → (∀ x ∈ ys, ∃ w ∈ opsLf, x = .str w) → ?Q2 (.ref l) H8 := fun l H8 ys g78 kl lg yn yl hys => ?_
      · have o3 : ∀ x ∈ [V.str "not", .str "and", .str "or"], ∃ w ∈ opsLf, x = .str w := fun x hx => by
          simp only [List.mem_cons, List.not_mem_nil, or_false] at hx
          rcases hx with rfl | rfl | rfl
          · exact ⟨"not", by decide +kernel, rfl⟩
          · exact ⟨"and", by decide +kernel, rfl⟩
          · exact ⟨"or", by decide +kernel, rfl⟩
        have ng : ∀ {H' : Hp} {l : Addr}, Grows H4 H' → H' l = none → l ≠ g := fun gh nl => by
          obtain ⟨ys, hy⟩ := (s4.grows gh).off.gr
          exact (ne_of_none hy nl).symm
        refine ⟨_, rfl, _, _, rfl, rfl, _, rfl, ?_⟩
        by_cases c5 : tn < 5
        · refine if_pos_of (decide_eq_true c5) ?_
          refine ⟨_, rfl, by show 0 ≤ sizeLine; omega, fun p np => ?_⟩
          have gp : Grows H4 (upd H4 p (.lst [])) := Grows.new np
          have kp : upd H4 p (.lst []) p = some (.lst []) := upd_same
          generalize upd H4 p (.lst []) = H5 at gp kp ⊢
          have kW5 := gp _ _ (kW b4)
          refine ⟨.list (ws.map PyData.str), .list [], .lst (.inl (.inl kW5)) dp_strs, .lst (.inl (.inl kp)) .nil, shaped_words hws, rfl, _, rfl, ?_⟩
          rw [eqv_words]
          by_cases cw : ws = []
          · refine if_neg_of (by rw [decide_eq_true cw]; decide) ?_
            exact ⟨by show 3 ≤ sizeLine; omega, fun l nl => fin2 l _ _ (gp.trans (Grows.new nl)) upd_same (ng gp nl) (by simp) (by decide) o3⟩
          · refine if_pos_of (by rw [decide_eq_false cw]; decide) ?_
            refine ⟨by show 3 ≤ sizeLine; omega, fun w1 nw1 => ?_⟩
            have gw1 : Grows H5 (upd H5 w1 (.lst [.str "not", .str "and", .str "or"])) := Grows.new nw1
            have kw1 : upd H5 w1 (.lst [.str "not", .str "and", .str "or"]) w1 = some (.lst [.str "not", .str "and", .str "or"]) := upd_same
            generalize upd H5 w1 (.lst [.str "not", .str "and", .str "or"]) = H6 at gw1 kw1 ⊢
            refine ⟨_, rfl, w1, W, _, ws.map V.str, rfl, rfl, kw1, gw1 _ _ kW5, by rw [List.length_map]; simp only [List.length_cons, List.length_nil]; omega, fun w2 nw2 => ?_⟩
            have gw2 : Grows H6 (upd H6 w2 (.lst ([.str "not", .str "and", .str "or"] ++ ws.map V.str))) := Grows.new nw2
            have kw2 : upd H6 w2 (.lst ([.str "not", .str "and", .str "or"] ++ ws.map V.str)) w2 = some (.lst ([.str "not", .str "and", .str "or"] ++ ws.map V.str)) := upd_same
            generalize upd H6 w2 (.lst ([.str "not", .str "and", .str "or"] ++ ws.map V.str)) = H7 at gw2 kw2 ⊢
            refine ⟨_, rfl, w2, W, _, ws.map V.str, rfl, rfl, kw2, gw2 _ _ (gw1 _ _ kW5), by rw [List.length_append, List.length_map]; simp only [List.length_cons, List.length_nil]; omega, fun w3 nw3 => ?_⟩
            refine fin2 w3 _ _ (((gp.trans gw1).trans gw2).trans (Grows.new nw3)) upd_same (ng ((gp.trans gw1).trans gw2) nw3) (by simp) (by simp only [List.length_append, List.length_map, List.length_cons, List.length_nil]; omega) fun x hx => ?_
            have hm : ∀ x ∈ ws.map V.str, ∃ w ∈ opsLf, x = .str w := fun x hx => by
              obtain ⟨w, hw, e⟩ := List.mem_map.mp hx
              exact ⟨w, wt w hw, e.symm⟩
            rcases List.mem_append.mp hx with h | h
            · rcases List.mem_append.mp h with h | h
              · exact o3 x h
              · exact hm x h
            · exact hm x h
        · refine if_neg_of (by rw [decide_eq_false c5]; decide) ?_
          refine if_neg_of (by decide) ?_
          exact ⟨by show 3 ≤ sizeLine; omega, fun l nl => fin2 l _ _ (Grows.new nl) upd_same (ng (Grows.refl _) nl) (by simp) (by decide) o3⟩
      refine ⟨a, g, c, l, cs, n + 1 + 6 * j, ys, rfl, s4.grows g78, by omega, kl, lg, yn, by omega, fun H9 x hx s9 b9 => ?_⟩
      obtain ⟨w, hw, rfl⟩ := hys x hx
      have t9 := (t4.grows g78).but b9 (s4.grows g78).off Dg
      have b9 := (b4.trans (But.of g78)).trans b9
      clear s4 t4 b4 g78 kl hys hx
      -- turned
      refine ⟨_, rfl, _, rfl, _, rfl, W, _, rfl, .inl (.inl (.inl (kW b9))), rfl, flat_strs _, .inr ⟨_, rfl, _, _, rfl, rfl, ?_⟩⟩
      generalize (if (if False then !inV (V.str w) (ws.map V.str) else inV (V.str w) (ws.map V.str)) = true then (1 : Int) else 0) = dt
      -- size
      dsimp only [gName, tSeq, tNext, tAsg]
      refine (?_ : tIf _ _ _ _ _ ?Q3)
      have fin3 : ∀ H11 : Hp, Grows H9 H11 → ?Q3 (.int ((sizeOf' w : Nat) : Int)) H11 := fun H11 g11 => ?_
      · refine ⟨_, rfl, by show 4 ≤ sizeLine; omega, fun t2 nt2 => ?_⟩
        refine ⟨t2, _, rfl, .inr (.inl (.inl upd_same)), rfl, by decide, _, rfl, ?_⟩
        have := fin3 _ (Grows.new (o := .tup [.str "and", .str "or", .str "until", .str "since"]) nt2)
        by_cases c2 : w = "and" ∨ w = "or" ∨ w = "until" ∨ w = "since"
        · have e2 : sizeOf' w = 2 := if_pos c2
          rw [e2] at this
          refine if_pos_of ?_ this
          show inV (.str w) [.str "and", .str "or", .str "until", .str "since"] = true
          rw [in_four, decide_eq_true c2]
        · have e2 : sizeOf' w = 1 := if_neg c2
          rw [e2] at this
          refine if_neg_of ?_ this
          show ¬ inV (.str w) [.str "and", .str "or", .str "until", .str "since"] = true
          rw [in_four, decide_eq_false c2]
          decide
      have s11 := s9.grows g11
      have t11 := t9.grows g11
      have b11 := b9.trans (But.of g11)
      clear s9 t9 b9 g11
      -- the new row
      have tl11 := t11.len
      refine ⟨_, rfl, .inl ⟨rfl, _, .inl (.inl t11.at_)⟩, _, rfl, by show 1 ≤ sizeLine; omega, fun t3 nt3 => ?_⟩
      have g12 : Grows H11 (upd H11 t3 (.tup [.str w])) := Grows.new nt3
      have k12 : upd H11 t3 (.tup [.str w]) t3 = some (.tup [.str w]) := upd_same
      have s12 := s11.grows g12
      have t12 := t11.grows g12
      have b12 := b11.trans (But.of g12)
      generalize upd H11 t3 (.tup [.str w]) = H12 at s12 t12 b12 k12 ⊢
      clear s11 t11 b11 g12 nt3
      have so : sizeOf' w ≤ 2 ∧ 1 ≤ sizeOf' w := by unfold sizeOf'; split <;> decide
      refine ⟨_, rfl, _, rfl, by omega, by omega, fun E nE => ?_⟩
      obtain ⟨Ea, Eg, Ec⟩ := s12.fresh nE
      refine lc_it walk_range (fun i H' => SAt H' a g c cs (n + 1 + 6 * j + 1 + 2 * i) ∧ But H12 H' a g ∧ ∃ is : List Nat, is.length = i ∧ (∀ x ∈ is, x < Fs.length) ∧ H' E = some (.lst (is.map nV)))
        ⟨s12.grows (Grows.new nE), But.of (Grows.new nE), [], rfl, (fun x h => by cases h), upd_same⟩ (fun _ _ _ _ => trivial) ?_ ?_
      · rintro i x H13x H13 hi ⟨s13, b13, is, il, ilt, hE⟩ ⟨rfl, rfl⟩
        have hi : i < sizeOf' w := by omega
        have nE12 : ∀ {b o}, H12 b = some o → b ≠ E := fun e => ne_of_none e nE
        have done : ∀ (H' : Hp) (x : Nat), x < Fs.length → SAt H' a g c cs (n + 1 + 6 * j + 1 + 2 * (i + 1)) → But H13 H' a g → ∃ acc, H' E = some (.lst acc) ∧ acc.length < sizeLine ∧ (SAt (upd H' E (.lst (acc ++ [nV x]))) a g c cs (n + 1 + 6 * j + 1 + 2 * (i + 1)) ∧ But H12 (upd H' E (.lst (acc ++ [nV x]))) a g ∧ ∃ is : List Nat, is.length = i + 1 ∧ (∀ x ∈ is, x < Fs.length) ∧ upd H' E (.lst (acc ++ [nV x])) E = some (.lst (is.map nV))) := fun H' x hx s' b' => by
          refine ⟨_, b' E _ hE Ea Eg, by rw [List.length_map]; omega, s'.put Ea Eg Ec _, fun b o e h1 h2 => ?_, is ++ [x], by rw [List.length_append, il]; rfl, fun y hy => ?_, ?_⟩
          · rw [upd_ne (nE12 e)]
            exact b' b o (b13 b o e h1 h2) h1 h2
          · rcases List.mem_append.mp hy with h | h
            · exact ilt y h
            · rw [List.mem_singleton.mp h]
              exact hx
          · rw [upd_same, List.map_append]
            rfl
        refine ⟨rfl, ?_⟩
        refine ⟨_, rfl, a, g, c, cs, _, 2, rfl, s13, by omega, by decide, by decide, fun H14 d d0 d1 s14 b14 => ⟨rfl, _, rfl, ?_⟩⟩
        have t14 := (t12.but b13 s12.off Dg).but b14 s13.off Dg
        have len14 : ((as.map V.ref).length : Int) = ((Fs.length : Nat) : Int) := by rw [List.length_map, t14.len]
        by_cases cd : d = 0
        · refine if_pos_of (decide_eq_true (congrArg V.int cd)) ?_
          refine ⟨_, rfl, _, rfl, D, _, rfl, .inl (.inl (.inl t14.at_)), a, g, c, cs, _, _, rfl, s14, by omega, by omega, by omega, fun H15 y y0 y1 s15 b15 => ?_⟩
          obtain ⟨y, rfl⟩ : ∃ z : Nat, y = z := ⟨y.toNat, by omega⟩
          exact done H15 y (by omega) (s15.mono (by omega)) (b14.trans b15)
        · refine if_neg_of (by rw [decide_eq_false (fun e => cd (V.int.inj e))]; decide) ?_
          refine ⟨_, rfl, D, _, rfl, .inl (.inl (.inl t14.at_)), _, _, rfl, rfl, ?_⟩
          have e14 : (((as.map V.ref).length : Int) - 1) = ((Fs.length - 1 : Nat) : Int) := by omega
          rw [e14]
          exact done H14 (Fs.length - 1) (by omega) (s14.mono (by omega)) b14
      · rintro H13 ⟨s13, b13, is, il, ilt, hE⟩
        have il : is.length = sizeOf' w := by omega
        obtain ⟨r, hr, hrr, hrl⟩ := mk_rowf hw il
        have t13 := t12.but b13 s12.off Dg
        have k13 := b13.tups s12.off _ _ k12
        refine ⟨E, _, rfl, .inl ⟨.inl (.inl hE), fun q nq => ?_⟩⟩
        have gq : Grows H13 (upd H13 q (.tup (is.map nV))) := Grows.new nq
        have kq : upd H13 q (.tup (is.map nV)) q = some (.tup (is.map nV)) := upd_same
        have s14 := s13.grows gq
        have t14 := t13.grows gq
        have k14 := gq _ _ k13
        have b14 := (b12.trans b13).trans (But.of gq)
        generalize upd H13 q (.tup (is.map nV)) = H14 at s14 t14 b14 k14 kq ⊢
        refine ⟨t3, q, _, _, rfl, rfl, .inl (.inl k14), .inl (.inl kq), by simp, by rw [List.length_map]; simp only [List.length_singleton]; omega, fun e => ?_, fun _ p np => ?_⟩
        · have : (is.map nV).length = 0 := by rw [e]; rfl
          rw [List.length_map] at this
          omega
        have gp : Grows H14 (upd H14 p (.tup ([.str w] ++ is.map nV))) := Grows.new np
        have kp : upd H14 p (.tup ([.str w] ++ is.map nV)) p = some (.tup r.vs) := by rw [upd_same, hr]; rfl
        have s15 := s14.grows gp
        have t15 := t14.grows gp
        have b15 := b14.trans (But.of gp)
        generalize upd H14 p (.tup ([.str w] ++ is.map nV)) = H15 at s15 t15 b15 kp ⊢
        refine ⟨D, _, _, rfl, rfl, t15.at_, by rw [List.length_map, t15.len]; omega, ?_⟩
        refine ⟨⟨_, _, _, _, _, _, rfl⟩, (s15.put Da Dg Dc _).mono (by omega), fun b o e h1 h2 => ?_, Fs ++ [r], as ++ [p], t15.snoc kp, ok4.snoc ⟨fun i hi => ?_, fun c' hc' => absurd hc' (hrl c')⟩, by rw [List.length_append, fl4]; simp only [List.length_singleton]; omega⟩
        · rw [upd_ne (ne_of_none e nD)]
          exact b15 b o e h1 h2
        · rw [hrr] at hi
          exact ilt i hi
    · rintro σ H4 ⟨⟨tn, v6, v7, v8, v9, v10, rfl⟩, s4, b4, Fs, as, t4, ok4, fl4⟩
      have kj : (1 + ((k : Nat) : Int)).toNat = k + 1 := by omega
      rw [kj] at s4 fl4
      dsimp only [gName, tSeq, tNext, tAsg]
      refine (?_ : tIfS _ _ _ ?D4 _ _)
      have fin : ∀ (H5 : Hp) (Fs : List Rf) (as : List Addr) (v7 v10 : Option V), SAt H5 a g c cs (n + 200) → But H H5 a g → RowsAtf H5 D Fs as → FOkf ls Fs → 1 ≤ Fs.length → Fs.length ≤ ls.length + m + 2 → Ends.nx ?D4 [some (.ref a), some (.str ls), some (.int ((m : Nat) : Int)), some (.ref W), some (.ref D), some (.int tn), v6, v7, v8, v9, v10] H5 := fun H5 Fs as v7 v10 s5 b5 t5 ok5 f1 f2 => ?_
      · refine ⟨_, rfl, _, _, rfl, rfl, _, rfl, ?_⟩
        by_cases c5 : tn < 5
        · refine if_pos_of (decide_eq_true c5) ?_
          refine ⟨_, rfl, by show 0 ≤ sizeLine; omega, fun p np => ?_⟩
          have gp : Grows H4 (upd H4 p (.lst [])) := Grows.new np
          have kp : upd H4 p (.lst []) p = some (.lst []) := upd_same
          have s4 := s4.grows gp
          have t4 := t4.grows gp
          have kW5 := gp _ _ (kW b4)
          have b4 := b4.trans (But.of gp)
          generalize upd H4 p (.lst []) = H4 at gp kp s4 t4 b4 kW5 ⊢
          refine ⟨.list (ws.map PyData.str), .list [], .lst (.inl (.inl kW5)) dp_strs, .lst (.inl (.inl kp)) .nil, shaped_words hws, rfl, _, rfl, ?_⟩
          rw [eqv_words]
          by_cases cw : ws = []
          · refine if_neg_of (by rw [decide_eq_true cw]; decide) ?_
            refine if_neg_of (by decide) ?_
            exact fin _ Fs as _ _ (s4.mono (by omega)) b4 t4 ok4 (by omega) (by omega)
          refine if_pos_of (by rw [decide_eq_false cw]; decide) ?_
          refine ⟨_, rfl, a, g, c, cs, _, 3, rfl, s4, by omega, by decide, by decide, fun H5 d d0 d1 s5 b5 => ⟨_, _, rfl, rfl, _, rfl, ?_⟩⟩
          have t5 := t4.but b5 s4.off Dg
          have b5 := b4.trans b5
          by_cases c6 : d > 0
          · refine if_pos_of (decide_eq_true c6) ?_
            have wn : ws.map V.str ≠ [] := fun e => cw (List.map_eq_nil_iff.mp e)
            refine ⟨_, rfl, _, rfl, a, g, c, W, cs, _, ws.map V.str, rfl, s5, by omega, kW b5, Wg, wn, by rw [List.length_map]; omega, fun H9 x hx s9 b9 => ?_⟩
            obtain ⟨w, hw, rfl⟩ := List.mem_map.mp hx
            have hwt := hws w hw
            have t9 := t5.but b9 s5.off Dg
            have b9 := b5.trans b9
            have tl9 := t9.len
            refine ⟨_, rfl, .inl ⟨rfl, _, .inl (.inl t9.at_)⟩, _, rfl, by show 1 ≤ sizeLine; omega, fun t3 nt3 => ?_⟩
            have g12 : Grows H9 (upd H9 t3 (.tup [.str w])) := Grows.new nt3
            have k12 : upd H9 t3 (.tup [.str w]) t3 = some (.tup [.str w]) := upd_same
            have s12 := s9.grows g12
            have t12 := t9.grows g12
            have b12 := b9.trans (But.of g12)
            generalize upd H9 t3 (.tup [.str w]) = H12 at s12 t12 b12 k12 ⊢
            have so : sizeOf' w ≤ 2 ∧ 1 ≤ sizeOf' w := by unfold sizeOf'; split <;> decide
            refine (?_ : tIf _ _ _ _ _ ?Q5)
            have fin5 : ∀ H13 : Hp, Grows H12 H13 → ?Q5 (.int ((sizeOf' w : Nat) : Int)) H13 := fun H13 g13 => ?_
            · refine ⟨_, rfl, by show 2 ≤ sizeLine; omega, fun t2 nt2 => ?_⟩
              refine ⟨t2, _, rfl, .inr (.inl (.inl upd_same)), rfl, by decide, _, rfl, ?_⟩
              have := fin5 _ (Grows.new (o := .tup [.str "until", .str "since"]) nt2)
              by_cases c2 : w = "until" ∨ w = "since"
              · have e2 : sizeOf' w = 2 := (size_turn hwt).trans (if_pos c2)
                rw [e2] at this
                refine if_pos_of ?_ this
                show inV (.str w) [.str "until", .str "since"] = true
                rw [in_two, decide_eq_true c2]
              · have e2 : sizeOf' w = 1 := (size_turn hwt).trans (if_neg c2)
                rw [e2] at this
                refine if_neg_of ?_ this
                show ¬ inV (.str w) [.str "until", .str "since"] = true
                rw [in_two, decide_eq_false c2]
                decide
            have s13 := s12.grows g13
            have t13 := t12.grows g13
            have b13 := b12.trans (But.of g13)
            have k13 := g13 _ _ k12
            refine ⟨_, rfl, by omega, by omega, fun E nE => ?_⟩
            refine lc_it walk_range (fun i H' => Grows H13 H' ∧ H' E = some (.lst (((List.range i).map fun q => Fs.length - 1 - q).map nV)))
              ⟨Grows.new nE, upd_same⟩ (fun _ _ _ _ => trivial) ?_ ?_
            · rintro i x H14x H14 hi ⟨g14, hE⟩ ⟨rfl, rfl⟩
              have hi : i < sizeOf' w := by omega
              refine ⟨rfl, ?_⟩
              have t14 := t13.grows g14
              refine ⟨_, rfl, D, _, rfl, .inl (.inl (.inl t14.at_)), _, _, rfl, rfl, _, rfl, _, _, rfl, rfl, ?_⟩
              have e14 : (((as.map V.ref).length : Int) - 1 - (0 + ((i : Nat) : Int))) = ((Fs.length - 1 - i : Nat) : Int) := by rw [List.length_map, t14.len]; omega
              rw [e14]
              refine ⟨_, hE, by rw [List.length_map, List.length_map, List.length_range]; omega, fun b o e => ?_, ?_⟩
              · rw [upd_ne (ne_of_none e nE)]
                exact g14 _ _ e
              · rw [upd_same, List.range_succ, List.map_append, List.map_append]
                rfl
            · rintro H14 ⟨g14, hE⟩
              have il : (((List.range (((sizeOf' w : Nat) : Int)).toNat).map fun q => Fs.length - 1 - q)).length = sizeOf' w := by rw [List.length_map, List.length_range]; omega
              have ilt : ∀ x ∈ ((List.range (((sizeOf' w : Nat) : Int)).toNat).map fun q => Fs.length - 1 - q), x < Fs.length := fun x hx => by
                obtain ⟨q, hq, rfl⟩ := List.mem_map.mp hx
                omega
              generalize ((List.range (((sizeOf' w : Nat) : Int)).toNat).map fun q => Fs.length - 1 - q) = is at il ilt hE
              obtain ⟨r, hr, hrr, hrl⟩ := mk_rowf (wt w hw) il
              have t14 := t13.grows g14
              have s14 := s13.grows g14
              have b14 := b13.trans (But.of g14)
              have k14 := g14 _ _ k13
              refine ⟨E, _, rfl, .inl ⟨.inl (.inl hE), fun q nq => ?_⟩⟩
              have gq : Grows H14 (upd H14 q (.tup (is.map nV))) := Grows.new nq
              have kq : upd H14 q (.tup (is.map nV)) q = some (.tup (is.map nV)) := upd_same
              have s15 := s14.grows gq
              have t15 := t14.grows gq
              have k15 := gq _ _ k14
              have b15 := b14.trans (But.of gq)
              generalize upd H14 q (.tup (is.map nV)) = H15 at s15 t15 b15 k15 kq ⊢
              refine ⟨t3, q, _, _, rfl, rfl, .inl (.inl k15), .inl (.inl kq), by simp, by rw [List.length_map]; simp only [List.length_singleton]; omega, fun e => ?_, fun _ p np => ?_⟩
              · have : (is.map nV).length = 0 := by rw [e]; rfl
                rw [List.length_map] at this
                omega
              have gp : Grows H15 (upd H15 p (.tup ([.str w] ++ is.map nV))) := Grows.new np
              have kp : upd H15 p (.tup ([.str w] ++ is.map nV)) p = some (.tup r.vs) := by rw [upd_same, hr]; rfl
              have s16 := s15.grows gp
              have t16 := t15.grows gp
              have b16 := b15.trans (But.of gp)
              generalize upd H15 p (.tup ([.str w] ++ is.map nV)) = H16 at s16 t16 b16 kp ⊢
              refine ⟨D, _, _, rfl, rfl, t16.at_, by rw [List.length_map, t16.len]; omega, ?_⟩
              refine fin _ (Fs ++ [r]) (as ++ [p]) _ _ ((s16.put Da Dg Dc _).mono (by omega)) (fun b o e h1 h2 => ?_) (t16.snoc kp) (ok4.snoc ⟨fun i hi => ?_, fun c' hc' => absurd hc' (hrl c')⟩) (by rw [List.length_append]; simp) (by rw [List.length_append, fl4]; simp only [List.length_singleton]; omega)
              · rw [upd_ne (ne_of_none e nD)]
                exact b16 b o e h1 h2
              · rw [hrr] at hi
                exact ilt i hi
          · refine if_neg_of (by rw [decide_eq_false c6]; decide) ?_
            exact fin H5 Fs as _ _ (s5.mono (by omega)) b5 t5 ok4 (by omega) (by omega)
        · refine if_neg_of (by rw [decide_eq_false c5]; decide) (if_neg_of (by decide) ?_)
          exact fin H4 Fs as _ _ (s4.mono (by omega)) b4 t4 ok4 (by omega) (by omega)
      · refine ⟨_, rfl, D, _, rfl, .inl ⟨.inl (.inl t5.at_), fun p np => ?_⟩⟩
        have gp := Grows.new (o := .tup (as.map V.ref)) np
        exact q _ (.ref p) Fs ⟨p, as, rfl, upd_same, t5.len, fun i a r h1 h2 => gp _ _ (t5.row i a r h1 h2)⟩ ok5 f1 f2 (s5.grows gp) (b5.trans (But.of gp))
end
end SWL
set_option Elab.async false
set_option linter.all false
set_option maxRecDepth 100000
set_option maxHeartbeats 8000000
namespace SWL
open PySem PySem.Spec PyProof.Rows L2 LamX TL
/-! texts of formulas, as mathematics -/
def numS (i : Nat) : Str := Str.ofString (toString ((i : Nat) : Int))
def Rf.words (r : Rf) : List Str := r.word :: r.refs.map numS
def pieceOf (r : Rf) : Str := match r with
  | .let_ c => sg c
  | _ => Txt.join " " r.words
def textOf (F : List Rf) : Str := Txt.join "; " (F.map pieceOf)
def isDig (c : Nat) : Bool := decide (48 ≤ c ∧ c ≤ 57)
def figB (z : Str) : Bool := decide (1 ≤ z.length ∧ z.length ≤ 4) && z.cps.toList.all isDig && (decide (z = "0") || decide (z.cps.toList[0]? ≠ some 48))
def numOf (z : Str) : Nat := NumText.digitsVal z.cps.toList
/-- the row that a piece may tell -/
def readP : List Str → Option (List V)
  | [] => none
  | w :: rest => if w = "letter" ∨ rest.all figB = false then none else some (.str w :: rest.map fun y => nV (numOf y))
def readW (z : Str) : Option (List V) := if z.length = 1 then some [.str "letter", .str z] else readP (Txt.split z " ")
/-- whether a piece tells no row that may stand there -/
def badAt (ls : Str) (k : Nat) (z : Str) : Bool := match readW z with
  | none => true
  | some xs => !okRowf ls k xs
theorem tl_cps (z : Str) : tl z = z.cps.toList := rfl
theorem numS_tl (i : Nat) : tl (numS i) = numL i := tl_num i
theorem numS_len {i : Nat} (h : i < 10 ^ 4) : (numS i).length ≤ 4 ∧ 1 ≤ (numS i).length := by
  have e : (numS i).length = (numL i).length := by rw [← numS_tl, len_tl]
  rw [e]
  refine ⟨numL_len (by decide) h, ?_⟩
  have := numL_ne i
  cases q : numL i with
  | nil => exact absurd q this
  | cons a b => simp
theorem numS_digs (i : Nat) : ∀ c ∈ (numS i).cps.toList, 48 ≤ c ∧ c ≤ 57 := fun c hc => by
  have h1 : (numS i).cps.toList = numL i := numS_tl i
  rw [h1] at hc
  exact numL_digits i c hc
theorem numOf_numS (i : Nat) : numOf (numS i) = i := by
  unfold numOf
  have h1 : (numS i).cps.toList = numL i := numS_tl i
  rw [h1]
  exact numL_val i
/-- no zero ahead -/
theorem numL_head : ∀ (n : Nat), 1 ≤ n → (numL n)[0]? ≠ some 48 := by
  intro n
  induction n using Nat.strongRecOn with
  | _ n ih =>
    intro h1
    by_cases h : n < 10
    · rw [numL_lt h]
      show some (48 + n) ≠ some 48
      intro e
      have := Option.some.inj e
      omega
    · rw [numL_step (by omega)]
      have hd := ih (n / 10) (by omega) (by omega)
      have ne := numL_ne (n / 10)
      rw [List.getElem?_append_left (by cases q : numL (n / 10) with | nil => exact absurd q ne | cons a b => simp)]
      exact hd
theorem figB_numS {i : Nat} (h : i < 10 ^ 4) : figB (numS i) = true := by
  obtain ⟨h1, h2⟩ := numS_len h
  unfold figB
  rw [decide_eq_true ⟨h2, h1⟩, Bool.true_and]
  have e : (numS i).cps.toList.all isDig = true := List.all_eq_true.mpr fun c hc => decide_eq_true (numS_digs i c hc)
  rw [e, Bool.true_and]
  by_cases h0 : i = 0
  · subst h0
    decide +kernel
  · have h3 : (numS i).cps.toList = numL i := numS_tl i
    rw [h3, decide_eq_true (numL_head i (by omega)), Bool.or_true]
theorem Rf.word_small (r : Rf) : r.word.length ≤ 7 ∧ 2 ≤ r.word.length ∧ (32 ∉ tl r.word) ∧ 59 ∉ tl r.word := by
  cases r with
  | tru => exact (by decide +kernel : ("true" : Str).length ≤ 7 ∧ 2 ≤ ("true" : Str).length ∧ (32 ∉ tl "true") ∧ 59 ∉ tl "true")
  | let_ c => exact (by decide +kernel : ("letter" : Str).length ≤ 7 ∧ 2 ≤ ("letter" : Str).length ∧ (32 ∉ tl "letter") ∧ 59 ∉ tl "letter")
  | nt i => exact (by decide +kernel : ("not" : Str).length ≤ 7 ∧ 2 ≤ ("not" : Str).length ∧ (32 ∉ tl "not") ∧ 59 ∉ tl "not")
  | an i j => exact (by decide +kernel : ("and" : Str).length ≤ 7 ∧ 2 ≤ ("and" : Str).length ∧ (32 ∉ tl "and") ∧ 59 ∉ tl "and")
  | or_ i j => exact (by decide +kernel : ("or" : Str).length ≤ 7 ∧ 2 ≤ ("or" : Str).length ∧ (32 ∉ tl "or") ∧ 59 ∉ tl "or")
  | nx i => exact (by decide +kernel : ("next" : Str).length ≤ 7 ∧ 2 ≤ ("next" : Str).length ∧ (32 ∉ tl "next") ∧ 59 ∉ tl "next")
  | la i => exact (by decide +kernel : ("later" : Str).length ≤ 7 ∧ 2 ≤ ("later" : Str).length ∧ (32 ∉ tl "later") ∧ 59 ∉ tl "later")
  | un i j => exact (by decide +kernel : ("until" : Str).length ≤ 7 ∧ 2 ≤ ("until" : Str).length ∧ (32 ∉ tl "until") ∧ 59 ∉ tl "until")
  | be i => exact (by decide +kernel : ("before" : Str).length ≤ 7 ∧ 2 ≤ ("before" : Str).length ∧ (32 ∉ tl "before") ∧ 59 ∉ tl "before")
  | ea i => exact (by decide +kernel : ("earlier" : Str).length ≤ 7 ∧ 2 ≤ ("earlier" : Str).length ∧ (32 ∉ tl "earlier") ∧ 59 ∉ tl "earlier")
  | si i j => exact (by decide +kernel : ("since" : Str).length ≤ 7 ∧ 2 ≤ ("since" : Str).length ∧ (32 ∉ tl "since") ∧ 59 ∉ tl "since")
theorem words_ok32 (r : Rf) : ∀ z ∈ r.words, 32 ∉ tl z ∧ 59 ∉ tl z := fun z hz => by
  rcases List.mem_cons.mp hz with rfl | hz
  · exact ⟨r.word_small.2.2.1, r.word_small.2.2.2⟩
  · obtain ⟨i, _, rfl⟩ := List.mem_map.mp hz
    have h := numS_digs i
    exact ⟨fun c => by have := h 32 c; omega, fun c => by have := h 59 c; omega⟩
/-- a piece, read again -/
theorem split_words (r : Rf) : Txt.split (Txt.join " " r.words) " " = r.words := split_join (y := " ") (s := 32) (S := []) (by decide +kernel) (by decide +kernel) (by unfold Rf.words; simp) fun p hp => (words_ok32 r p hp).1
theorem join_len2 (sep : Str) (texts : List Str) : (Txt.join sep texts).length ≤ (texts.map (·.length)).sum + texts.length * sep.length := by
  rw [join_eq]
  exact StrLaws.join_length_le sep texts
theorem sum_le {α : Type} (f : α → Nat) (k : Nat) : ∀ l : List α, (∀ x ∈ l, f x ≤ k) → (l.map f).sum ≤ l.length * k
  | [], _ => by simp
  | x :: l, h => by
    rw [List.map_cons, List.sum_cons, List.length_cons, Nat.succ_mul]
    have := sum_le f k l fun y hy => h y (List.mem_cons_of_mem _ hy)
    have := h x List.mem_cons_self
    omega
theorem words_len {r : Rf} (h : ∀ i ∈ r.refs, i < 10 ^ 4) : (∀ z ∈ r.words, z.length ≤ 7) ∧ r.words.length ≤ 3 := by
  refine ⟨fun z hz => ?_, ?_⟩
  · rcases List.mem_cons.mp hz with rfl | hz
    · exact r.word_small.1
    · obtain ⟨i, hi, rfl⟩ := List.mem_map.mp hz
      have := (numS_len (h i hi)).1
      omega
  · unfold Rf.words
    rw [List.length_cons, List.length_map]
    have := r.refs_len
    omega
theorem piece_len {r : Rf} (h : ∀ i ∈ r.refs, i < 10 ^ 4) : (pieceOf r).length ≤ 24 := by
  have gen : (Txt.join " " r.words).length ≤ 24 := by
    obtain ⟨h1, h2⟩ := words_len h
    have h3 := join_len2 " " r.words
    have h4 := sum_le (·.length) 7 r.words h1
    have h5 : (" " : Str).length = 1 := rfl
    rw [h5] at h3
    omega
  cases r with
  | let_ c => show 1 ≤ 24; decide
  | _ => exact gen
theorem text_len {F : List Rf} (h : ∀ r ∈ F, ∀ i ∈ r.refs, i < 10 ^ 4) : ((F.map pieceOf).map (·.length)).sum + (F.map pieceOf).length * ("; " : Str).length ≤ F.length * 26 := by
  have h1 : ((F.map pieceOf).map (fun z : Str => z.length)).sum ≤ (F.map pieceOf).length * 24 := sum_le (fun z : Str => z.length) 24 _ fun z hz => by
    obtain ⟨r, hr, rfl⟩ := List.mem_map.mp hz
    exact piece_len (h r hr)
  have h2 : ("; " : Str).length = 2 := rfl
  rw [h2]
  rw [List.length_map] at h1 ⊢
  omega
end SWL
set_option Elab.async false
set_option linter.all false
set_option maxRecDepth 100000
set_option maxHeartbeats 8000000
namespace SWL
open PySem PySem.Spec PyProof.Rows L2 LamX TL
/-! row_text, formula_text, is_figures -/
def rStr2 : List V → Hp → VK → Prop := fun xs H Q => (∃ a, xs = [.str a] ∧ Q (.str a) H) ∨ ∃ i : Int, xs = [.int i] ∧ i.natAbs.log2 < 1920 ∧ Q (.str (Str.ofString (toString i))) H
theorem cr_str2 {X : Cx} : CallR X (.type "str") rStr2 := by
  intro pins s σ H xs us Q I r h
  rcases h with h | h
  · exact SkE.call_str_str pins s σ H xs us Q I r h
  · exact call_str_int pins s σ H xs us Q I r h
theorem log_small {i : Nat} (h : i < 10 ^ 4) : (((i : Nat) : Int).natAbs).log2 < 1920 := by
  have e : (((i : Nat) : Int)).natAbs = i := rfl
  rw [e]
  by_cases h0 : i = 0
  · subst h0; decide
  · exact (Nat.log2_lt h0).mpr (Nat.lt_of_lt_of_le h (Nat.le_trans (by decide : 10 ^ 4 ≤ 2 ^ 14) (Nat.pow_le_pow_right (by decide) (by decide))))
def txtV : V → V
  | .str z => .str z
  | .int i => .str (Str.ofString (toString i))
  | x => x
def Small (r : Rf) : Prop := ∀ i ∈ r.refs, i < 10 ^ 4
def spRowText : Sp := fun vs H Q _ => ∃ (a : Addr) (r : Rf), vs = [.ref a] ∧ H a = some (.tup r.vs) ∧ Small r ∧ ∀ H', Grows H H' → Q (.str (pieceOf r)) H'
def spFText (K : PySem.W.Frag) (CN CF : Addr) : Sp := fun vs H Q E => ∃ x v, vs = [x, v] ∧ LetOr K CN H x E fun ls => (∃ th, ThAt K H v th ∧ ThIn th ∧ okThf ls th = false ∧ ∀ H', Grows H H' → E (.ref CF) none H') ∨
  ∃ F : List Rf, FormAtf H v F ∧ FOkf ls F ∧ 1 ≤ F.length ∧ F.length ≤ 100 ∧ (∀ c ∈ ls.cps.toList, c < 0x110000) ∧ ∀ H', Grows H H' → Q (.str (textOf F)) H'
def figS : Str := "0123456789"
def spIsFig : Sp := fun vs H Q _ => ∃ z : Str, vs = [.str z] ∧ z.length ≤ 5000 ∧ ∀ H', Grows H H' → Q (.bl (figB z)) H'
abbrev NRt : List Str := ["row", "one"]
abbrev NFt : List Str := ["letters", "formula", "row"]
abbrev NIf : List Str := ["text", "sign"]
theorem fig_dig (c : Nat) : decide (c ∈ figS.cps.toList) = isDig c := by
  have e : figS.cps.toList = [48, 49, 50, 51, 52, 53, 54, 55, 56, 57] := by decide +kernel
  rw [e]
  unfold isDig
  refine decide_eq_decide.mpr ?_
  simp only [List.mem_cons, List.not_mem_nil, or_false]
  omega
theorem Rf.sel (r : Rf) (h : r.word ≠ "letter") : pieceOf r = Txt.join " " r.words := by
  cases r with
  | let_ c => exact absurd rfl h
  | _ => rfl
section
variable {P : Program} {w : World} {K : PySem.W.Frag} {mg : Str → Option Value} {base : Heap}
theorem scRowText : FnScope NRt ["row"] (defScope sRowText) := ⟨rfl, rfl, rfl, by decide +kernel, rfl, by decide +kernel, by decide +kernel⟩
theorem ok_rowText {f : Addr} {fd : FuncData} (F : L2.Fun K "row_text" "row_text" sRowText f fd) (B : Blt mg) : FnOk P w K mg base CX0 1 f fd ["row"] spRowText := by
  refine F.ok scRowText (fun vs H Q E h => ?_) (fun cdv A outer s H vs Q E hr h => ⟨_,
    (pss_cons (ps_if (pt_cmpR op_eq (pe_ix ix_tup (pv 0) pe_int (fun _ _ => rfl)) pe_str (nomark _)) (pss_one (ps_ret (pe_ix ix_tup (pv 0) pe_int (fun _ _ => rfl)))) pss_nil)
      (pss_one (ps_ret (pe_join pe_str (pe_lc (own := [("one", 1)]) (g := (gName 1)) (tt := tYes) (te := (tCB rStr2 (tCons (tVar 1) tNil))) rfl scRowText.nd (pi_tup (pv 0)) (blkOk_by (N := NRt) (sc := defScope sRowText) (by decide +kernel)) (fun _ _ _ _ _ => (pg_name (i := 1) scRowText.nd rfl (Or.inl rfl))) (fun _ _ _ _ _ => pts_nil) (fun _ _ _ _ _ => (pe_callTy cr_str2 (by rfl) B.str (by decide +kernel) (pa_cons (pv 1) pa_nil)))))))), ?_⟩)
  · obtain ⟨a, r, rfl, _⟩ := h
    rfl
  · obtain ⟨a, r, rfl, ha, hs, q⟩ := h
    have sz : sizeLine = 16777216 := sizeLine_eq
    by_cases hw : r.word = "letter"
    · obtain ⟨c, rfl⟩ : ∃ c, r = .let_ c := by
        cases r with
        | let_ c => exact ⟨c, rfl⟩
        | tru => exact absurd hw (show ¬ ("true" : Str) = "letter" by decide +kernel)
        | nt i => exact absurd hw (show ¬ ("not" : Str) = "letter" by decide +kernel)
        | an i j => exact absurd hw (show ¬ ("and" : Str) = "letter" by decide +kernel)
        | or_ i j => exact absurd hw (show ¬ ("or" : Str) = "letter" by decide +kernel)
        | nx i => exact absurd hw (show ¬ ("next" : Str) = "letter" by decide +kernel)
        | la i => exact absurd hw (show ¬ ("later" : Str) = "letter" by decide +kernel)
        | un i j => exact absurd hw (show ¬ ("until" : Str) = "letter" by decide +kernel)
        | be i => exact absurd hw (show ¬ ("before" : Str) = "letter" by decide +kernel)
        | ea i => exact absurd hw (show ¬ ("earlier" : Str) = "letter" by decide +kernel)
        | si i j => exact absurd hw (show ¬ ("since" : Str) = "letter" by decide +kernel)
      exact ⟨_, rfl, a, _, _, _, rfl, rfl, .inl (.inl ha), (Rf.let_ c).word0, rfl, _, rfl, if_pos_of (decide_eq_true (congrArg V.str hw)) ⟨_, rfl, a, _, _, _, rfl, rfl, .inl (.inl ha), atI_nat (j := 1) rfl, q H (Grows.refl H)⟩⟩
    · refine ⟨_, rfl, a, _, _, _, rfl, rfl, .inl (.inl ha), r.word0, rfl, _, rfl, if_neg_of (by rw [decide_eq_false (fun e => hw (V.str.inj e))]; decide) ?_⟩
      obtain ⟨wl, w3⟩ := words_len hs
      have vl : r.vs.length ≤ 3 := by
        rw [r.vs_eq, List.length_cons, Rf.notLetter hw, List.length_map]
        have := r.refs_len
        omega
      refine ⟨⟨_, rfl⟩, ?_⟩
      refine ⟨_, rfl, a, rfl, ⟨_, .inl (.inl ha)⟩, fun D nD => ?_⟩
      refine comp (xs := r.vs) walk_tup (fun _ => true) txtV nD (fun H2 g2 => .inl (.inl (g2 _ _ ha))) (by omega) (fun x H k _ g hk => hk H (Grows.refl H)) (fun x H2 Q hx _ g2 hq => ?_) (fun H2 g2 hD => ?_)
      · rw [r.vs_eq, Rf.notLetter hw] at hx
        rcases List.mem_cons.mp hx with rfl | hx
        · exact ⟨_, rfl, .inl ⟨_, rfl, hq H2 (Grows.refl H2)⟩⟩
        · obtain ⟨i, hi, rfl⟩ := List.mem_map.mp hx
          exact ⟨_, rfl, .inr ⟨_, rfl, log_small (hs i hi), hq H2 (Grows.refl H2)⟩⟩
      · rw [filter_yes] at hD
        have e : r.vs.map txtV = r.words.map V.str := by
          rw [r.vs_eq, Rf.notLetter hw]
          unfold Rf.words
          rw [List.map_cons, List.map_cons, List.map_map, List.map_map]
          rfl
        rw [e] at hD
        have q := q H2 g2
        rw [r.sel hw] at q
        have hsum := sum_le (fun z : Str => z.length) 7 r.words wl
        exact ⟨" ", D, r.words, rfl, rfl, .inl (.inl (.inl hD)), by have : (" " : Str).length = 1 := rfl; rw [this]; omega, q⟩
theorem scFText : FnScope NFt ["letters", "formula"] (defScope sFText) := ⟨rfl, rfl, rfl, by decide +kernel, rfl, by decide +kernel, by decide +kernel⟩
theorem ok_fText {f f1 fT CN CF : Addr} {fd fd1 fdT : FuncData} (F : L2.Fun K "formula_text" "formula_text" sFText f fd)
    (G1 : FnOk P w K mg base (L2.CX P w) 5 f1 fd1 ["letters", "formula"] (spNeedF K CN CF)) (D1 : Def mg K "need_formula" f1 fd1 ["letters", "formula"])
    (GT : FnOk P w K mg base CX0 1 fT fdT ["row"] spRowText) (DT : Def mg K "row_text" fT fdT ["row"]) : FnOk P w K mg base (L2.CX P w) 6 f fd ["letters", "formula"] (spFText K CN CF) := by
  refine F.okX scFText (fun vs H Q E h => ?_) (fun cdv A outer s H vs Q E hr h => ⟨_,
    (pss_cons (ps_expr (pe_call G1 hr (by rfl) D1.g D1.k D1.b .nil (passes_call (takes_of rfl rfl rfl rfl) fun _ _ _ _ h => h) (pa_cons (pv 0) (pa_cons (pv 1) pa_nil))))
      (pss_one (ps_ret (pe_join pe_str (pe_lc (own := [("row", 2)]) (g := (gName 2)) (tt := tYes) (te := (tCall spRowText [] E0 (tCons (tVar 2) tNil))) rfl scFText.nd (pi_tup (pv 1)) (blkOk_by (N := NFt) (sc := defScope sFText) (by decide +kernel)) (fun _ _ _ _ _ => (pg_name (i := 2) scFText.nd rfl (Or.inl rfl))) (fun _ _ _ _ _ => pts_nil) (fun _ _ _ _ _ => (pe_call GT (hr.mono (by decide)) (by rfl) DT.g DT.k DT.b .nil pass0 (pa_cons (pv 2) pa_nil)))))))), ?_⟩)
  · obtain ⟨x, v, rfl, _⟩ := h
    rfl
  · obtain ⟨x, v, rfl, h⟩ := h
    have sz : sizeLine = 16777216 := sizeLine_eq
    refine ⟨_, rfl, _, rfl, x, v, rfl, ?_⟩
    rcases h with h | ⟨ls, rfl, hls, hok, ⟨th, hv, hin, ho, e⟩ | ⟨F, hF, ok, f1, f2, hs, q⟩⟩
    · exact .inl h
    · exact .inr ⟨ls, rfl, hls, hok, th, hv, hin, .inl ⟨ho, e⟩⟩
    refine .inr ⟨ls, rfl, hls, hok, _, hF.th, thIn_rowsf hs ok, .inr ⟨okTh_rowsf ok f1 (by omega), fun H1 g1 => ?_⟩⟩
    obtain ⟨p, as, rfl, hp, hl, hrow⟩ := hF.grows g1
    have sm : ∀ r ∈ F, Small r := fun r hr i hi => by
      obtain ⟨k, hk⟩ := List.getElem?_of_mem hr
      have := (ok k r hk).1 i hi
      have := (List.getElem?_eq_some_iff.mp hk).1
      omega
    refine ⟨⟨_, rfl⟩, ?_⟩
    refine ⟨_, rfl, p, rfl, ⟨_, .inl (.inl hp)⟩, fun D nD => ?_⟩
    refine lc_it (walk_tup (xs := as.map V.ref)) (fun k H' => Grows H1 H' ∧ H' D = some (.lst (((F.take k).map pieceOf).map V.str))) ⟨Grows.new nD, upd_same⟩ (fun _ H' _ hh => .inl (.inl (hh.1 _ _ hp))) ?_ ?_
    · rintro k y H2x H2 hk ⟨g2, kD⟩ ⟨rfl, hy⟩
      have hk : k < F.length := by rw [List.length_map] at hk; omega
      obtain ⟨r, hr⟩ : ∃ r, F[k]? = some r := ⟨_, List.getElem?_eq_getElem hk⟩
      obtain ⟨a, ha⟩ : ∃ a, as[k]? = some a := ⟨_, List.getElem?_eq_getElem (by omega)⟩
      rw [List.getElem?_map, ha] at hy
      obtain rfl := Option.some.inj hy
      refine ⟨rfl, ?_⟩
      refine ⟨_, rfl, a, r, rfl, g2 _ _ (hrow k a r ha hr), sm r (List.mem_of_getElem? hr), fun H3 g3 => ?_⟩
      refine ⟨_, g3 _ _ kD, by rw [List.length_map, List.length_map, List.length_take]; omega, fun c o e => ?_, ?_⟩
      · rw [upd_ne (ne_of_none e nD)]
        exact g3 _ _ (g2 _ _ e)
      · rw [upd_same, take_snoc hr, List.map_append, List.map_append]
        rfl
    · rintro H2 ⟨g2, kD⟩
      rw [List.length_map, hl, List.take_length] at kD
      have tl := text_len (F := F) sm
      exact ⟨"; ", D, F.map pieceOf, rfl, rfl, .inl (.inl (.inl kD)), by omega, q H2 (g1.trans g2)⟩
theorem scIsFig : FnScope NIf ["text"] (defScope sIsFig) := ⟨rfl, rfl, rfl, by decide +kernel, rfl, by decide +kernel, by decide +kernel⟩
theorem ok_isFig {f : Addr} {fd : FuncData} (F : L2.Fun K "is_figures" "is_figures" sIsFig f fd) (B : Blt mg) : FnOk P w K mg base CX0 1 f fd ["text"] spIsFig := by
  refine F.ok scIsFig (fun vs H Q E h => ?_) (fun cdv A outer s H vs Q E hr h => ⟨_,
    (pss_cons (ps_if (PW.pt (pw_or (pt_not (pt_chain op_le op_le pe_int (pe_callB call_len_str (by rfl) B.len PySem.boot_len (pa_cons (pv 0) pa_nil)) pe_int)) (pw_or1 (pt_not (pt_truth (pe_callB (cr_all rfl) (by rfl) B.all (by decide +kernel) (pa_cons (pe_lc (own := [("sign", 1)]) (g := (gName 1)) (tt := tYes)  rfl scIsFig.nd (pi_str (pv 0)) (blkOk_by (N := NIf) (sc := defScope sIsFig) (by decide +kernel)) (fun _ _ _ _ _ => (pg_name (i := 1) scIsFig.nd rfl (Or.inl rfl))) (fun _ _ _ _ _ => pts_nil) (fun _ _ _ _ _ => (pe_cmpR op_inS (pv 1) (pe_glob (v := .str figS) (by rfl) B.figs.choose_spec ⟨_, rfl⟩) rfl))) pa_nil)) (by intro _; rfl)))))) (pss_one (ps_ret pe_bl)) pss_nil)
      (pss_one (ps_ret (pe_or (pe_cmpR op_eq (pv 0) pe_str (nomark _)) (pe_one (pe_cmpR op_ne (pe_ix ix_str (pv 0) pe_int (fun _ _ => rfl)) pe_str (nomark _))))))), ?_⟩)
  · obtain ⟨z, rfl, _⟩ := h
    rfl
  · obtain ⟨z, rfl, hz, q⟩ := h
    have sz : sizeLine = 16777216 := sizeLine_eq
    have zl : z.cps.toList.length = z.length := cut_len z
    have fl : figB z = (decide (1 ≤ z.length ∧ z.length ≤ 4) && z.cps.toList.all isDig && (decide (z = "0") || decide (z.cps.toList[0]? ≠ some 48))) := rfl
    refine ⟨_, rfl, z, rfl, by omega, _, _, rfl, rfl, decide ((1 : Int) ≤ z.length), rfl, ?_⟩
    by_cases c1 : (1 : Int) ≤ z.length
    rotate_left
    · refine if_neg_of (by rw [decide_eq_false c1]; decide) ⟨false, rfl, if_pos_of (by decide) (if_pos_of rfl ?_)⟩
      rw [decide_eq_false (by omega : ¬ (1 ≤ z.length ∧ z.length ≤ 4)), Bool.false_and, Bool.false_and] at fl
      rw [fl] at q
      exact q H (Grows.refl H)
    refine if_pos_of (decide_eq_true c1) ⟨_, _, rfl, rfl, decide ((z.length : Int) ≤ 4), rfl, ?_⟩
    by_cases c2 : (z.length : Int) ≤ 4
    rotate_left
    · refine if_pos_of (by rw [decide_eq_false c2]; decide) (if_pos_of rfl ?_)
      rw [decide_eq_false (by omega : ¬ (1 ≤ z.length ∧ z.length ≤ 4)), Bool.false_and, Bool.false_and] at fl
      rw [fl] at q
      exact q H (Grows.refl H)
    refine if_neg_of (by rw [decide_eq_true c2]; decide) ?_
    rw [decide_eq_true (⟨by omega, by omega⟩ : 1 ≤ z.length ∧ z.length ≤ 4), Bool.true_and] at fl
    refine ⟨_, rfl, z, rfl, fun D nD => comp (xs := signsV z) (walk_signs z) (fun _ => true) (fun x => .bl (isDig (sign0 x))) nD (fun _ _ => trivial) (by rw [signs_len]; omega) (fun x H k _ g hk => hk H (Grows.refl H)) (fun x H Q hx _ g hq => ?_) (fun H2 g2 hD => ?_)⟩
    · obtain ⟨c, hc, rfl⟩ := signs_mem hx
      have := hq H (Grows.refl H)
      have e : isDig (sign0 (V.str ⟨#[c]⟩)) = decide (c ∈ figS.cps.toList) := (fig_dig c).symm
      rw [e] at this
      exact ⟨_, rfl, c, figS, rfl, rfl, this⟩
    rw [filter_yes] at hD
    refine ⟨D, z.cps.toList.map isDig, rfl, .inl (.inl (hD.trans ?_)), _, rfl, ?_⟩
    · unfold signsV
      rw [List.map_map, List.map_map]
      rfl
    have e1 : (z.cps.toList.map isDig).all id = z.cps.toList.all isDig := by rw [List.all_map]; rfl
    rw [e1]
    cases e2 : z.cps.toList.all isDig with
    | false =>
      rw [e2, Bool.false_and] at fl
      rw [fl] at q
      exact if_pos_of (by decide) (q H2 g2)
    | true =>
      rw [e2, Bool.true_and] at fl
      rw [fl] at q
      refine if_neg_of (by decide) ?_
      refine ⟨_, rfl, rfl, _, rfl, ?_⟩
      by_cases c3 : z = "0"
      · rw [decide_eq_true c3, Bool.true_or] at q
        exact if_pos_of (decide_eq_true (congrArg V.str c3)) (q H2 g2)
      · rw [decide_eq_false c3, Bool.false_or] at q
        refine if_neg_of (by rw [decide_eq_false (fun e => c3 (V.str.inj e))]; decide) ?_
        obtain ⟨d, hd⟩ : ∃ d, z.cps.toList[0]? = some d := ⟨_, List.getElem?_eq_getElem (by omega)⟩
        refine ⟨_, rfl, z, 0, d, rfl, rfl, by omega, atI_nat (j := 0) hd, rfl, ?_⟩
        have e3 : (!decide (V.str ⟨#[d]⟩ = V.str "0")) = decide (z.cps.toList[0]? ≠ some 48) := by
          rw [hd]
          have e4 : decide (V.str ⟨#[d]⟩ = V.str "0") = decide (d = 48) := decide_eq_decide.mpr ⟨fun h => sg_inj (V.str.inj h), fun h => by rw [h]; rfl⟩
          rw [e4]
          by_cases hd48 : d = 48
          · subst hd48; rfl
          · rw [decide_eq_false hd48]
            have ne : (some d : Option Nat) ≠ some 48 := fun e => hd48 (Option.some.inj e)
            exact (decide_eq_true ne).symm
        have := q H2 g2
        rw [← e3] at this
        exact this
end
end SWL
set_option Elab.async false
set_option linter.all false
set_option maxRecDepth 100000
set_option maxHeartbeats 8000000
namespace SWL
open PySem PySem.Spec PyProof.Rows L2 LamX TL
/-! row_read -/
theorem spl_all (S : List Nat) : ∀ (l : List Nat) (k : Nat) (acc : List Nat), spl S k acc l ≠ [] ∧ (spl S k acc l).length ≤ 1 + l.length ∧ ∀ p ∈ spl S k acc l, p.length ≤ acc.length + l.length ∧ ∀ c ∈ p, c ∈ acc ∨ c ∈ l := by
  intro l
  induction l with
  | nil =>
    intro k acc
    rw [spl_nil]
    exact ⟨by simp, by simp, fun p hp => by rw [List.mem_singleton.mp hp]; exact ⟨by simp, fun c h => .inl h⟩⟩
  | cons c r ih =>
    intro k acc
    cases k with
    | succ k =>
      have e : spl S (k + 1) acc (c :: r) = spl S k acc r := rfl
      rw [e]
      obtain ⟨h1, h2, h3⟩ := ih k acc
      exact ⟨h1, by rw [List.length_cons]; omega, fun p hp => ⟨by have := (h3 p hp).1; rw [List.length_cons]; omega, fun d hd => ((h3 p hp).2 d hd).imp id (List.mem_cons_of_mem _)⟩⟩
    | zero =>
      cases hp : pre S (c :: r) with
      | true =>
        rw [spl_hit hp]
        obtain ⟨h1, h2, h3⟩ := ih (S.length - 1) []
        refine ⟨by simp, by rw [List.length_cons, List.length_cons]; omega, fun p hp => ?_⟩
        rcases List.mem_cons.mp hp with rfl | hp
        · exact ⟨by omega, fun d hd => .inl hd⟩
        · exact ⟨by have := (h3 p hp).1; rw [List.length_nil] at this; rw [List.length_cons]; omega, fun d hd => ((h3 p hp).2 d hd).elim (fun h => by cases h) fun h => .inr (List.mem_cons_of_mem _ h)⟩
      | false =>
        rw [spl_miss hp]
        obtain ⟨h1, h2, h3⟩ := ih 0 (acc ++ [c])
        refine ⟨h1, by rw [List.length_cons]; omega, fun p hp => ?_⟩
        obtain ⟨h4, h5⟩ := h3 p hp
        refine ⟨by rw [List.length_append, List.length_singleton] at h4; rw [List.length_cons]; omega, fun d hd => ?_⟩
        rcases h5 d hd with h | h
        · rcases List.mem_append.mp h with h | h
          · exact .inl h
          · rw [List.mem_singleton.mp h]
            exact .inr List.mem_cons_self
        · exact .inr (List.mem_cons_of_mem _ h)
/-- what is split: some pieces, no longer than the text -/
theorem split_all {x y : Str} (hy : tl y ≠ []) (hk : y.cps.all (· < 256) = true) : Txt.split x y ≠ [] ∧ (Txt.split x y).length ≤ 1 + x.length ∧ ∀ p ∈ Txt.split x y, p.length ≤ x.length ∧ ∀ c ∈ p.cps.toList, c ∈ x.cps.toList := by
  have e := split_spl x y hy (kind_ok hk)
  obtain ⟨h1, h2, h3⟩ := spl_all (tl y) (tl x) 0 []
  rw [← e] at h1 h2 h3
  refine ⟨fun c => h1 (by rw [c]; rfl), by rw [List.length_map] at h2; rw [← len_tl] at h2; exact h2, fun p hp => ?_⟩
  obtain ⟨h4, h5⟩ := h3 (tl p) (List.mem_map.mpr ⟨p, hp, rfl⟩)
  rw [List.length_nil, Nat.zero_add, ← len_tl, ← len_tl] at h4
  exact ⟨h4, fun c hc => (h5 c hc).elim (fun h => by cases h) id⟩
theorem go_catA {K : PySem.W.Frag} {H : Hp} {Q : VK} {a b : Addr} {xs ys : List V} (ha : H a = some (.tup xs)) (hb : H b = some (.tup ys)) (hl : xs.length + ys.length ≤ sizeLine) (q : ∀ p H', Grows H H' → H' p = some (.tup (xs ++ ys)) → Q (.ref p) H') : rCatA K (.ref a) (.ref b) H Q := by
  refine ⟨a, b, xs, ys, rfl, rfl, .inl (.inl ha), .inl (.inl hb), hl, fun e => ?_, fun _ e => ?_, fun _ _ p np => q p _ (Grows.new np) upd_same⟩
  · exact q b H (Grows.refl H) (by rw [hb, e]; rfl)
  · exact q a H (Grows.refl H) (by rw [ha, e, List.append_nil])
def rIntS : List V → Hp → VK → Prop := fun xs H Q => ∃ a n, xs = [.str a] ∧ PySem.intText? a = some n ∧ a.length ≤ 640 ∧ Q (.int n) H
theorem figB_int {z : Str} (h : figB z = true) : PySem.intText? z = some ((numOf z : Nat) : Int) ∧ z.length ≤ 4 := by
  unfold figB at h
  rw [Bool.and_eq_true, Bool.and_eq_true, decide_eq_true_eq] at h
  obtain ⟨⟨⟨h1, h2⟩, h3⟩, _⟩ := h
  have hd : NumText.AllDigits z.cps.toList := fun c hc => by
    have := List.all_eq_true.mp h3 c hc
    exact of_decide_eq_true this
  have ne : z.cps.toList ≠ [] := fun e => by
    have := cut_len z
    rw [e] at this
    simp only [List.length_nil] at this
    omega
  exact ⟨intText_digits hd ne (by omega), h2⟩
def spRowRead : Sp := fun vs H Q _ => ∃ z : Str, vs = [.str z] ∧ z.length ≤ 4000 ∧ (readW z = none → ∀ H', Grows H H' → Q .non H') ∧ (∀ xs, readW z = some xs → ∀ p H', Grows H H' → H' p = some (.tup xs) → Q (.ref p) H')
abbrev NRr : List Str := ["text", "word", "rest", "one"]
section
variable {P : Program} {w : World} {K : PySem.W.Frag} {mg : Str → Option Value} {base : Heap}
theorem scRowRead : FnScope NRr ["text"] (defScope sRowRead) := ⟨rfl, rfl, rfl, by decide +kernel, rfl, by decide +kernel, by decide +kernel⟩
theorem ok_rowRead {f fI : Addr} {fd fdI : FuncData} (F : L2.Fun K "row_read" "row_read" sRowRead f fd) (B : Blt mg)
    (GI : FnOk P w K mg base CX0 1 fI fdI ["text"] spIsFig) (DI : Def mg K "is_figures" fI fdI ["text"]) : FnOk P w K mg base CX0 2 f fd ["text"] spRowRead := by
  refine F.ok scRowRead (fun vs H Q E h => ?_) (fun cdv A outer s H vs Q E hr h => ⟨_,
    (pss_cons (ps_if (pt_cmpR op_eq (pe_callB call_len_str (by rfl) B.len PySem.boot_len (pa_cons (pv 0) pa_nil)) pe_int (nomark _)) (pss_one (ps_ret (pe_tup (pa_cons pe_str (pa_cons (pv 0) pa_nil))))) pss_nil)
      (pss_cons (ps_asg (pe_split (pv 0) pe_str) (pg_starL rfl (pg_name (i := 1) scRowRead.nd rfl (Or.inl rfl)) (pg_name (i := 2) scRowRead.nd rfl (Or.inl rfl))))
      (pss_cons (ps_if (PW.pt (pw_or (pt_cmpR op_eq (pv 1) pe_str (nomark _)) (pw_or1 (pt_not (pt_truth (pe_callB (cr_all rfl) (by rfl) B.all (by decide +kernel) (pa_cons (pe_lc (own := [("one", 3)]) (g := (gName 3)) (tt := tYes) (te := (tCall spIsFig [] E0 (tCons (tVar 3) tNil))) rfl scRowRead.nd (pi_list (pv 2)) (blkOk_by (N := NRr) (sc := defScope sRowRead) (by decide +kernel)) (fun _ _ _ _ _ => (pg_name (i := 3) scRowRead.nd rfl (Or.inl rfl))) (fun _ _ _ _ _ => pts_nil) (fun _ _ _ _ _ => (pe_call GI (hr.mono (by decide)) (by rfl) DI.g DI.k DI.b .nil pass0 (pa_cons (pv 3) pa_nil)))) pa_nil)) (by intro _; rfl)))))) (pss_one (ps_ret pe_non)) pss_nil)
      (pss_one (ps_ret (pe_op op_catA (pe_tup (pa_cons (pv 1) pa_nil)) (pe_callTy call_tuple_of (by rfl) B.tuple (by decide +kernel) (pa_cons (pe_lc (own := [("one", 3)]) (g := (gName 3)) (tt := tYes) (te := (tCB rIntS (tCons (tVar 3) tNil))) rfl scRowRead.nd (pi_list (pv 2)) (blkOk_by (N := NRr) (sc := defScope sRowRead) (by decide +kernel)) (fun _ _ _ _ _ => (pg_name (i := 3) scRowRead.nd rfl (Or.inl rfl))) (fun _ _ _ _ _ => pts_nil) (fun _ _ _ _ _ => (pe_callTy call_int_str (by rfl) B.int (by decide +kernel) (pa_cons (pv 3) pa_nil)))) pa_nil)))))))), ?_⟩)
  · obtain ⟨z, rfl, _⟩ := h
    rfl
  · obtain ⟨z, rfl, hz, q0, q1⟩ := h
    have sz : sizeLine = 16777216 := sizeLine_eq
    refine ⟨_, rfl, z, rfl, by omega, rfl, _, rfl, ?_⟩
    by_cases c1 : z.length = 1
    · refine if_pos_of (decide_eq_true (by rw [c1]; rfl)) ?_
      have e : readW z = some [.str "letter", .str z] := if_pos c1
      refine ⟨_, rfl, by show 2 ≤ sizeLine; omega, fun p np => q1 _ e p _ (Grows.new np) upd_same⟩
    refine if_neg_of (by rw [decide_eq_false (fun e => c1 (by have := V.int.inj e; omega))]; decide) ?_
    have er : readW z = readP (Txt.split z " ") := if_neg c1
    rw [er] at q0 q1
    obtain ⟨s1, s2, s3⟩ := split_all (x := z) (y := " ") (by decide +kernel) (by decide +kernel)
    refine ⟨_, rfl, ⟨_, rfl⟩, z, " ", rfl, rfl, by decide +kernel, by omega, fun W nW => ?_⟩
    have gW : Grows H (upd H W (.lst ((Txt.split z " ").map V.str))) := Grows.new nW
    have kW : upd H W (.lst ((Txt.split z " ").map V.str)) W = some (.lst ((Txt.split z " ").map V.str)) := upd_same
    generalize upd H W (.lst ((Txt.split z " ").map V.str)) = H1 at gW kW ⊢
    cases es : Txt.split z " " with
    | nil => exact absurd es s1
    | cons wd rest =>
      rw [es] at kW s2 s3 q0 q1
      rw [List.length_cons] at s2
      refine ⟨W, .str wd, rest.map V.str, rfl, .inl (.inl kW), by rw [List.length_map]; omega, fun D nD => ?_⟩
      have gD : Grows H1 (upd H1 D (.lst (rest.map V.str))) := Grows.new nD
      have kD : upd H1 D (.lst (rest.map V.str)) D = some (.lst (rest.map V.str)) := upd_same
      generalize upd H1 D (.lst (rest.map V.str)) = H2 at gD kD ⊢
      have g2 := gW.trans gD
      refine ⟨_, rfl, rfl, _, rfl, ?_⟩
      by_cases c2 : wd = "letter"
      · refine if_pos_of (decide_eq_true (congrArg V.str c2)) (if_pos_of rfl ?_)
        exact q0 (if_pos (.inl c2)) H2 g2
      refine if_neg_of (by rw [decide_eq_false (fun e => c2 (V.str.inj e))]; decide) ?_
      refine ⟨_, rfl, D, rfl, ⟨_, .inl (.inl kD)⟩, fun D1 nD1 => ?_⟩
      refine comp1 (I := rest) (gv := V.str) walk_listM (fun _ => true) (fun y => .bl (figB y)) nD1 (fun H3 g3 => .inl (.inl (g3 _ _ kD))) (by omega) (fun i H k _ g hk => hk H (Grows.refl H)) (fun y H3 Q hy _ g3 hq => ?_) (fun H3 g3 hD1 => ?_)
      · exact ⟨_, rfl, y, rfl, by have := (s3 y (List.mem_cons_of_mem _ hy)).1; omega, hq⟩
      rw [filter_yes] at hD1
      refine ⟨D1, rest.map figB, rfl, .inl (.inl (by rw [hD1, List.map_map]; rfl)), _, rfl, ?_⟩
      have ea : (rest.map figB).all id = rest.all figB := by rw [List.all_map]; rfl
      rw [ea]
      cases ef : rest.all figB with
      | false => exact if_pos_of (by decide) (q0 (if_pos (.inr ef)) H3 (g2.trans g3))
      | true =>
        have ex : readP (wd :: rest) = some (.str wd :: rest.map fun y => nV (numOf y)) := if_neg (fun h => h.elim c2 fun h => by rw [ef] at h; cases h)
        have q1 := q1 _ ex
        refine if_neg_of (by decide) ?_
        refine ⟨_, rfl, by show 1 ≤ sizeLine; omega, fun t nt => ?_⟩
        have gt : Grows H3 (upd H3 t (.tup [.str wd])) := Grows.new nt
        have kt : upd H3 t (.tup [.str wd]) t = some (.tup [.str wd]) := upd_same
        generalize upd H3 t (.tup [.str wd]) = H4 at gt kt ⊢
        have kD4 := gt _ _ (g3 _ _ kD)
        refine ⟨_, rfl, D, rfl, ⟨_, .inl (.inl kD4)⟩, fun D2 nD2 => ?_⟩
        refine comp1 (I := rest) (gv := V.str) walk_listM (fun _ => true) (fun y => nV (numOf y)) nD2 (fun H5 g5 => .inl (.inl (g5 _ _ kD4))) (by omega) (fun i H k _ g hk => hk H (Grows.refl H)) (fun y H5 Q hy _ g5 hq => ?_) (fun H5 g5 hD2 => ?_)
        · obtain ⟨i1, i2⟩ := figB_int (List.all_eq_true.mp ef y hy)
          exact ⟨_, rfl, y, _, rfl, i1, by omega, hq H5 (Grows.refl H5)⟩
        rw [filter_yes] at hD2
        refine ⟨D2, _, rfl, .inl ⟨.inl (.inl hD2), fun p np => ?_⟩⟩
        have gp : Grows H5 (upd H5 p (.tup (rest.map fun y => nV (numOf y)))) := Grows.new np
        have kp : upd H5 p (.tup (rest.map fun y => nV (numOf y))) p = some (.tup (rest.map fun y => nV (numOf y))) := upd_same
        generalize upd H5 p (.tup (rest.map fun y => nV (numOf y))) = H6 at gp kp ⊢
        exact go_catA (gp _ _ (g5 _ _ kt)) kp (by rw [List.length_map]; simp only [List.length_singleton]; omega) fun p' H' g' k' => q1 p' H' ((((g2.trans g3).trans gt).trans (g5.trans gp)).trans g') k'
end
end SWL
set_option Elab.async false
set_option linter.all false
set_option maxRecDepth 100000
set_option maxHeartbeats 8000000
namespace SWL
open PySem PySem.Spec PyProof.Rows L2 LamX TL
/-! what is read of texts, as mathematics -/
theorem joinL_mem (S : List Nat) : ∀ (l : List (List Nat)) (c : Nat), c ∈ joinL S l → c ∈ S ∨ ∃ p ∈ l, c ∈ p
  | [], c, h => by cases h
  | [p], c, h => .inr ⟨p, List.mem_cons_self, h⟩
  | p :: q :: r, c, h => by
    have h : c ∈ p ++ (S ++ joinL S (q :: r)) := h
    rcases List.mem_append.mp h with h | h
    · exact .inr ⟨p, List.mem_cons_self, h⟩
    rcases List.mem_append.mp h with h | h
    · exact .inl h
    rcases joinL_mem S (q :: r) c h with h | ⟨x, hx, hc⟩
    · exact .inl h
    · exact .inr ⟨x, List.mem_cons_of_mem _ hx, hc⟩
theorem join_mem {y : Str} {parts : List Str} {c : Nat} (h : c ∈ tl (Txt.join y parts)) : c ∈ tl y ∨ ∃ p ∈ parts, c ∈ tl p := by
  rw [join_eq, tl_join] at h
  rcases joinL_mem _ _ c h with h | ⟨p, hp, hc⟩
  · exact .inl h
  · obtain ⟨z, hz, rfl⟩ := List.mem_map.mp hp
    exact .inr ⟨z, hz, hc⟩
theorem piece_no {r : Rf} (h : ∀ c, r = .let_ c → c ≠ 59) : 59 ∉ tl (pieceOf r) := fun m => by
  by_cases hw : r.word = "letter"
  · cases r with
    | let_ c =>
      have m : 59 ∈ [c] := m
      exact h c rfl (List.mem_singleton.mp m).symm
    | tru => exact absurd hw (show ¬ ("true" : Str) = "letter" by decide +kernel)
    | nt i => exact absurd hw (show ¬ ("not" : Str) = "letter" by decide +kernel)
    | an i j => exact absurd hw (show ¬ ("and" : Str) = "letter" by decide +kernel)
    | or_ i j => exact absurd hw (show ¬ ("or" : Str) = "letter" by decide +kernel)
    | nx i => exact absurd hw (show ¬ ("next" : Str) = "letter" by decide +kernel)
    | la i => exact absurd hw (show ¬ ("later" : Str) = "letter" by decide +kernel)
    | un i j => exact absurd hw (show ¬ ("until" : Str) = "letter" by decide +kernel)
    | be i => exact absurd hw (show ¬ ("before" : Str) = "letter" by decide +kernel)
    | ea i => exact absurd hw (show ¬ ("earlier" : Str) = "letter" by decide +kernel)
    | si i j => exact absurd hw (show ¬ ("since" : Str) = "letter" by decide +kernel)
  · rw [r.sel hw] at m
    rcases join_mem m with h | ⟨p, hp, hc⟩
    · revert h
      decide +kernel
    · exact (words_ok32 r p hp).2 hc
/-- the text of a formula, cut again -/
theorem split_text {F : List Rf} (hF : F ≠ []) (h : ∀ r ∈ F, ∀ c, r = .let_ c → c ≠ 59) : Txt.split (textOf F) "; " = F.map pieceOf :=
  split_join (y := "; ") (s := 59) (S := [32]) (by decide +kernel) (by decide +kernel) (fun e => hF (List.map_eq_nil_iff.mp e)) fun p hp => by
    obtain ⟨r, hr, rfl⟩ := List.mem_map.mp hp
    exact piece_no (h r hr)
theorem join_head (y x : Str) (l : List Str) : x.length ≤ (Txt.join y (x :: l)).length := by
  rw [len_tl, len_tl, join_eq, tl_join]
  cases l with
  | nil => exact Nat.le_refl _
  | cons z l =>
    show (tl x).length ≤ (tl x ++ _).length
    rw [List.length_append]
    omega
/-- a row's text, read again -/
theorem read_piece {r : Rf} (hs : Small r) : readW (pieceOf r) = some r.vs := by
  by_cases hw : r.word = "letter"
  · cases r with
    | let_ c => rfl
    | tru => exact absurd hw (show ¬ ("true" : Str) = "letter" by decide +kernel)
    | nt i => exact absurd hw (show ¬ ("not" : Str) = "letter" by decide +kernel)
    | an i j => exact absurd hw (show ¬ ("and" : Str) = "letter" by decide +kernel)
    | or_ i j => exact absurd hw (show ¬ ("or" : Str) = "letter" by decide +kernel)
    | nx i => exact absurd hw (show ¬ ("next" : Str) = "letter" by decide +kernel)
    | la i => exact absurd hw (show ¬ ("later" : Str) = "letter" by decide +kernel)
    | un i j => exact absurd hw (show ¬ ("until" : Str) = "letter" by decide +kernel)
    | be i => exact absurd hw (show ¬ ("before" : Str) = "letter" by decide +kernel)
    | ea i => exact absurd hw (show ¬ ("earlier" : Str) = "letter" by decide +kernel)
    | si i j => exact absurd hw (show ¬ ("since" : Str) = "letter" by decide +kernel)
  · rw [r.sel hw]
    have hl := join_head " " r.word (r.refs.map numS)
    have h2 := r.word_small.2.1
    have e1 : readW (Txt.join " " r.words) = readP (Txt.split (Txt.join " " r.words) " ") := if_neg (by unfold Rf.words; omega)
    rw [e1, split_words]
    have ef : (r.refs.map numS).all figB = true := by
      rw [List.all_map, List.all_eq_true]
      intro i hi
      exact figB_numS (hs i hi)
    have e2 : readP (r.word :: r.refs.map numS) = some (.str r.word :: (r.refs.map numS).map fun y => nV (numOf y)) := if_neg (fun h => h.elim hw fun h => by rw [ef] at h; cases h)
    show readP (r.word :: r.refs.map numS) = _
    rw [e2, r.vs_eq, Rf.notLetter hw, List.map_map]
    congr 2
    refine List.map_congr_left fun i _ => ?_
    show nV (numOf (numS i)) = nV i
    rw [numOf_numS]
/-! this law's own reading of a piece -/
def lawP (k : Nat) : List Str → Option (List V)
  | [] => none
  | w :: rest => match sizeWf w with
    | none => none
    | some n => if rest.length = n ∧ rest.all (fun y => figB y && decide (numOf y < k)) = true then some (.str w :: rest.map fun y => nV (numOf y)) else none
def lawW (ls : Str) (k : Nat) (z : Str) : Option (List V) := if z.length = 1 then (if z.cps.toList.all (fun c => decide (c ∈ ls.cps.toList)) = true then some [.str "letter", .str z] else none) else lawP k (Txt.split z " ")
theorem nums_all (k : Nat) (rest : List Str) (h : rest.all figB = true) : (rest.map fun y => nV (numOf y)).all (numB k) = rest.all fun y => figB y && decide (numOf y < k) := by
  rw [List.all_map]
  induction rest with
  | nil => rfl
  | cons y rest ih =>
    rw [List.all_cons, Bool.and_eq_true] at h
    rw [List.all_cons, List.all_cons, ih h.2, h.1, Bool.true_and]
    congr 1
    show decide (0 ≤ ((numOf y : Nat) : Int) ∧ ((numOf y : Nat) : Int) ≤ (k : Int) - 1) = decide (numOf y < k)
    exact decide_eq_decide.mpr (by omega)
/-- both read alike -/
theorem read_alike (ls : Str) (k : Nat) (z : Str) : lawW ls k z = if badAt ls k z = true then none else readW z := by
  unfold lawW badAt readW
  by_cases h1 : z.length = 1
  · rw [if_pos h1, if_pos h1]
    have e : okRowf ls k [.str "letter", .str z] = z.cps.toList.all (fun c => decide (c ∈ ls.cps.toList)) := by
      show (decide (z.length = 1) && z.cps.toList.all (fun c => decide (c ∈ ls.cps.toList))) = _
      rw [decide_eq_true h1, Bool.true_and]
    show _ = if (!okRowf ls k [.str "letter", .str z]) = true then none else _
    rw [e]
    cases z.cps.toList.all (fun c => decide (c ∈ ls.cps.toList)) <;> rfl
  · rw [if_neg h1, if_neg h1]
    cases Txt.split z " " with
    | nil => rfl
    | cons w rest =>
      show (match sizeWf w with | none => none | some n => _) = _
      by_cases hw : w = "letter"
      · subst hw
        have e : readP ("letter" :: rest) = none := by
          unfold readP
          exact if_pos (Or.inl rfl)
        have e2 : sizeWf "letter" = none := by decide +kernel
        rw [e, e2]
        rfl
      cases ef : rest.all figB with
      | false =>
        have e : readP (w :: rest) = none := by
          unfold readP
          exact if_pos (Or.inr ef)
        rw [e]
        cases sizeWf w with
        | none => rfl
        | some n =>
          refine if_neg fun h => ?_
          have : rest.all figB = true := List.all_eq_true.mpr fun y hy => by
            have := List.all_eq_true.mp h.2 y hy
            rw [Bool.and_eq_true] at this
            exact this.1
          rw [this] at ef
          cases ef
      | true =>
        have e : readP (w :: rest) = some (.str w :: rest.map fun y => nV (numOf y)) := if_neg (fun h => h.elim hw fun h => by rw [ef] at h; cases h)
        rw [e]
        have eo : okRowf ls k (.str w :: rest.map fun y => nV (numOf y)) = numsB k (rest.map fun y => nV (numOf y)) (sizeWf w) := okRow_notf hw
        show _ = if (!okRowf ls k (.str w :: rest.map fun y => nV (numOf y))) = true then none else _
        rw [eo]
        cases sizeWf w with
        | none => rfl
        | some n =>
          show (if _ then _ else _) = if (!(decide ((rest.map fun y => nV (numOf y)).length = n) && (rest.map fun y => nV (numOf y)).all (numB k))) = true then none else _
          rw [nums_all k rest ef, List.length_map]
          by_cases c1 : rest.length = n
          · rw [decide_eq_true c1, Bool.true_and]
            cases c2 : rest.all fun y => figB y && decide (numOf y < k) with
            | true => exact if_pos ⟨c1, rfl⟩
            | false => exact if_neg fun h => by cases h.2
          · rw [decide_eq_false c1, Bool.false_and]
            exact if_neg fun h => c1 h.1
end SWL
set_option Elab.async false
set_option linter.all false
set_option maxRecDepth 100000
set_option maxHeartbeats 8000000
namespace SWL
open PySem PySem.Spec PyProof.Rows L2 LamX TL
/-! NoText(at): its own __init__ -/
def inClass (s : Stmt) (i : Nat) : Stmt := match s with
  | .ClassDef _ _ _ body .. => body.getD i (.Pass ⟨0, 0, 0, 0⟩)
  | _ => .Pass ⟨0, 0, 0, 0⟩
abbrev sNTInit : Stmt := inClass (topS 8) 0
def spNTInit (K : PySem.W.Frag) (C : Addr) : Sp := fun vs H Q _ => ∃ (a : Addr) (y : V), vs = [.ref a, y] ∧ H a = some (exo a C none) ∧ ∀ dx, H dx = none → dx ≠ a → Q .non (upd (upd H dx (exd dx [("at", y)])) a (exo a C (some dx)))
section
variable {P : Program} {w : World} {K : PySem.W.Frag} {mg : Str → Option Value} {base : Heap}
theorem scNTInit : FnScope ["self", "at"] ["self", "at"] (defScope sNTInit) := ⟨rfl, rfl, rfl, by decide +kernel, rfl, by decide +kernel, by decide +kernel⟩
theorem ok_ntInit {C f : Addr} {fd : FuncData} (F : L2.Fun K "__init__" "NoText.__init__" sNTInit f fd) (T : OexC K C) (hat : PySem.W.findIn K (.ref C) "at" = some none) : FnOk P w K mg base CX0 1 f fd ["self", "at"] (spNTInit K C) := by
  refine F.ok scNTInit (fun vs H Q E h => ?_) (fun cdv A outer s H vs Q E hr h => ⟨_,
    (pss_one (ps_ost (pv 0) (pv 1))), ?_⟩)
  · obtain ⟨a, y, rfl, _⟩ := h
    rfl
  · obtain ⟨a, y, rfl, ha, q⟩ := h
    exact ⟨_, rfl, _, rfl, a, C, rfl, T, hat, .inl ⟨ha, fun dx h1 h2 => q dx h1 h2⟩⟩
end
end SWL
set_option Elab.async false
set_option linter.all false
set_option maxRecDepth 100000
set_option maxHeartbeats 8000000
namespace SWL
open PySem PySem.Spec PyProof.Rows L2 LamX TL
/-! read_formula -/
/-- NoText, as it stands -/
structure NoTextK (K : PySem.W.Frag) (mg : Str → Option Value) (C fN : Addr) : Prop where
  g : mg "NoText" = some (.ref C)
  T : OexC K C
  iC : PySem.W.findIn K (.ref C) "__init__" = some (some (.ref fN))
  tI : PySem.W.typeIn K (.ref fN) = some (.type "function")
structure BindsN (K : PySem.W.Frag) (fd : FuncData) : Prop where
  b : L2.Binds K fd ["self", "at"] []
theorem strOk_of {z : Str} (h : ∀ c ∈ z.cps.toList, c < 0x110000) : PyData.strOk z = true := by
  unfold PyData.strOk
  rw [← Array.all_toList, List.all_eq_true]
  intro c hc
  exact decide_eq_true (h c hc)
theorem read_in {z : Str} {xs : List V} (h : readW z = some xs) (hl : z.length ≤ 1000) (hc : ∀ c ∈ z.cps.toList, c < 0x110000) : ElIn (.row xs) := by
  unfold readW at h
  by_cases h1 : z.length = 1
  · rw [if_pos h1] at h
    obtain rfl := Option.some.inj h
    refine ⟨by simp [Flat], by simp, True.intro, fun y hy => ?_⟩
    simp only [List.mem_cons, List.not_mem_nil, or_false, V.str.injEq] at hy
    rcases hy with rfl | rfl
    · exact (by decide +kernel : ("letter" : Str).length ≤ 1000 ∧ PyData.strOk "letter" = true)
    · exact ⟨hl, strOk_of hc⟩
  · rw [if_neg h1] at h
    obtain ⟨s1, s2, s3⟩ := split_all (x := z) (y := " ") (by decide +kernel) (by decide +kernel)
    cases es : Txt.split z " " with
    | nil => exact absurd es s1
    | cons w rest =>
      rw [es] at h s2 s3
      have h : (if w = "letter" ∨ rest.all figB = false then none else some (V.str w :: rest.map fun y => nV (numOf y))) = some xs := h
      by_cases hq : w = "letter" ∨ rest.all figB = false
      · rw [if_pos hq] at h
        cases h
      · rw [if_neg hq] at h
        obtain rfl := Option.some.inj h
        rw [List.length_cons] at s2
        refine ⟨fun x hx => ?_, by rw [List.length_cons, List.length_map]; omega, True.intro, fun y hy => ?_⟩
        · rcases List.mem_cons.mp hx with rfl | hx
          · exact True.intro
          · obtain ⟨i, _, rfl⟩ := List.mem_map.mp hx
            exact True.intro
        · rcases List.mem_cons.mp hy with e | hy
          · rw [V.str.inj e]
            obtain ⟨h2, h3⟩ := s3 w List.mem_cons_self
            exact ⟨by omega, strOk_of fun c hcw => hc c (h3 c hcw)⟩
          · obtain ⟨i, _, e⟩ := List.mem_map.mp hy
            cases e
def spReadF (K : PySem.W.Frag) (CN CT : Addr) : Sp := fun vs H Q E => ∃ x v, vs = [x, v] ∧ LetOr K CN H x E fun ls => (NotStr K H v ∧ ∀ d H', Grows H H' → H' d = some (.xd [("at", .int 0)]) → E (.ref CT) (some d) H') ∨
  ∃ z : Str, v = .str z ∧ z.length ≤ 4000 ∧ (∀ c ∈ z.cps.toList, c < 0x110000) ∧ (∀ p ∈ Txt.split z "; ", p.length ≤ 1000) ∧
    (∀ k zk, (Txt.split z "; ")[k]? = some zk → badAt ls k zk = true → (∀ j zj, j < k → (Txt.split z "; ")[j]? = some zj → badAt ls j zj = false) → ∀ d H', Grows H H' → H' d = some (.xd [("at", nV k)]) → E (.ref CT) (some d) H') ∧
    ((∀ k zk, (Txt.split z "; ")[k]? = some zk → badAt ls k zk = false) → ∀ (p : Addr) (as : List Addr) (H' : Hp), Grows H H' → H' p = some (.tup (as.map V.ref)) → as.length = (Txt.split z "; ").length → (∀ (k : Nat) (a : Addr) (zk : Str) (xs : List V), as[k]? = some a → (Txt.split z "; ")[k]? = some zk → readW zk = some xs → H' a = some (.tup xs)) → Q (.ref p) H')
abbrev NRf : List Str := ["letters", "text", "rows", "at", "piece", "row"]
section
variable {P : Program} {w : World} {K : PySem.W.Frag} {mg : Str → Option Value} {base : Heap}
theorem scReadF : FnScope NRf ["letters", "text"] (defScope sReadF) := ⟨rfl, rfl, rfl, by decide +kernel, rfl, by decide +kernel, by decide +kernel⟩
theorem ok_readF {f fL fR fF fN CN CT : Addr} {fd fdL fdR fdF fdN : FuncData} (F : L2.Fun K "read_formula" "read_formula" sReadF f fd) (B : Blt mg) (NT : NoTextK K mg CT fN)
    (GN : FnOk P w K mg base CX0 1 fN fdN ["self", "at"] (spNTInit K CT)) (DN : BindsN K fdN)
    (GL : FnOk P w K mg base (L2.CX P w) 3 fL fdL ["thing"] (spNeedL K CN)) (DL : Def mg K "need_letters" fL fdL ["thing"])
    (GR : FnOk P w K mg base CX0 2 fR fdR ["text"] spRowRead) (DR : Def mg K "row_read" fR fdR ["text"])
    (GF : FnOk P w K mg base CX0 2 fF fdF ["letters", "thing", "at"] (spFRow K)) (DF : Def mg K "is_formula_row" fF fdF ["letters", "thing", "at"]) : FnOk P w K mg base (L2.CX P w) 6 f fd ["letters", "text"] (spReadF K CN CT) := by
  refine F.okX scReadF (fun vs H Q E h => ?_) (fun cdv A outer s H vs Q E hr h => ⟨_,
    (pss_cons (ps_expr (pe_call GL (hr.mono (by decide)) (by rfl) DL.g DL.k DL.b .nil (passes_call (takes_of rfl rfl rfl rfl) fun _ _ _ _ h => h) (pa_cons (pv 0) pa_nil)))
      (pss_cons (ps_if (pt_not (pt_truth (pe_callB call_isi (by rfl) B.isi (by decide +kernel) (pa_cons (pv 1) (pa_cons (pe_bltn (u := .type "str") (v := .ty "str") (by rfl) B.str (by decide +kernel) rfl) pa_nil))) (by intro _; rfl))) (pss_one (ps_raise rfl (takes_of rfl rfl rfl rfl) (pmk_oex NT.T NT.iC NT.tI GN (hr.mono (by decide)) DN.b .nil pass0 (by rfl) NT.g (pa_cons pe_int pa_nil)))) pss_nil)
      (pss_cons (ps_set (i := 2) scReadF.nd rfl (Or.inl rfl) (pe_lst pa_nil))
      (pss_cons (ps_for (passes_of rfl) rfl (pi_enum (by rfl) B.enum (pa_cons (pe_split (pv 1) pe_str) pa_nil)) (pg_tup rfl (pgs_cons (pg_name (i := 3) scReadF.nd rfl (Or.inl rfl)) (pgs_cons (pg_name (i := 4) scReadF.nd rfl (Or.inl rfl)) pgs_nil))) (pss_cons (ps_set (i := 5) scReadF.nd rfl (Or.inl rfl) (pe_call GR (hr.mono (by decide)) (by rfl) DR.g DR.k DR.b .nil pass0 (pa_cons (pv 4) pa_nil)))
      (pss_cons (ps_if (PW.pt (pw_or (pt_cmpR op_eq (pv 3) (pe_glob (v := .int 6000) (by rfl) B.rowsF.choose_spec ⟨_, rfl⟩) (nomark _)) (pw_or (pt_cmpR op_isN (pv 5) pe_non (nomark _)) (pw_or1 (pt_not (pt_truth (pe_call GF (hr.mono (by decide)) (by rfl) DF.g DF.k DF.b .nil pass0 (pa_cons (pv 0) (pa_cons (pv 5) (pa_cons (pv 3) pa_nil)))) (by intro _; rfl))))))) (pss_one (ps_raise rfl (takes_of rfl rfl rfl rfl) (pmk_oex NT.T NT.iC NT.tI GN (hr.mono (by decide)) DN.b .nil pass0 (by rfl) NT.g (pa_cons (pv 3) pa_nil)))) pss_nil)
      (pss_one (ps_expr (pe_bm PySem.F.plainAttrs_list PySem.F.slot_list_append PySem.F.type_list_append mt_append (pv 2) (pa_cons (pv 5) pa_nil)))))))
      (pss_one (ps_ret (pe_callTy call_tuple_of (by rfl) B.tuple (by decide +kernel) (pa_cons (pv 2) pa_nil)))))))), ?_⟩)
  · obtain ⟨x, v, rfl, _⟩ := h
    rfl
  · obtain ⟨x, v, rfl, h⟩ := h
    have sz : sizeLine = 16777216 := sizeLine_eq
    -- a NoText raised
    have nt : ∀ (y : V) (H1 : Hp), (∀ d H', Grows H1 H' → H' d = some (.xd [("at", y)]) → E (.ref CT) (some d) H') → ∀ a, H1 a = none → spNTInit K CT (.ref a :: ([y] ++ [])) (upd H1 a (exo a CT none)) (fun v H2 => v = .non ∧ ∃ (d : Addr) (fs : List (Str × V)), H2 a = some (exo a CT (some d)) ∧ H2 d = some (exd d fs) ∧ H1 d = none ∧ E (.ref CT) (some d) (upd (del H2 a) d (.xd fs))) (fun _ _ _ => False) := fun y H1 he a na => by
      refine ⟨a, y, rfl, upd_same, fun dx hdx nda => ?_⟩
      rw [upd_ne nda] at hdx
      refine ⟨rfl, dx, [("at", y)], upd_same, by rw [upd_ne nda]; exact upd_same, hdx, he dx _ (fun c o e => ?_) upd_same⟩
      have ca : c ≠ a := ne_of_none e na
      have cd : c ≠ dx := ne_of_none e hdx
      rw [upd_ne cd, del_ne ca, upd_ne ca, upd_ne cd, upd_ne ca]
      exact e
    refine ⟨_, rfl, x, rfl, ?_⟩
    rcases h with ⟨h | ⟨z, rfl, hz, hb⟩, e⟩ | ⟨ls, rfl, hls, hok, h⟩
    · exact .inr ⟨h, e H (Grows.refl H)⟩
    · exact .inl ⟨z, rfl, hz, fun H' g => ⟨(fun c => by rw [hb] at c; cases c), fun _ => e H' g⟩⟩
    refine .inl ⟨ls, rfl, hls, fun H1 g1 => ⟨fun _ => ?_, fun c => by rw [hok] at c; cases c⟩⟩
    rcases h with ⟨hn, e⟩ | ⟨z, rfl, hz, hc, hps, qb, qg⟩
    · obtain ⟨t, ty, kk⟩ := hn.grows g1
      exact ⟨_, rfl, v, .ty "str", .type t, .type "str", false, rfl, .ty "str", ty, kit_ty kk, false, rfl, if_pos_of (by decide) ⟨by decide, nt (.int 0) H1 fun d H' g hx => e d H' (g1.trans g) hx⟩⟩
    refine ⟨_, rfl, .str z, .ty "str", .type "str", .type "str", true, rfl, .ty "str", .base (.str z), kit_ty (by decide +kernel), true, rfl, if_neg_of (by decide) ?_⟩
    refine ⟨by show 0 ≤ sizeLine; omega, fun R nR => ?_⟩
    have gR : Grows H1 (upd H1 R (.lst [])) := Grows.new nR
    have kR : upd H1 R (.lst []) R = some (.lst []) := upd_same
    have g2 := g1.trans gR
    generalize upd H1 R (.lst []) = H2 at gR kR g2 ⊢
    obtain ⟨s1, s2, s3⟩ := split_all (x := z) (y := "; ") (by decide +kernel) (by decide +kernel)
    refine ⟨_, rfl, ⟨_, rfl⟩, z, "; ", rfl, rfl, by decide +kernel, by omega, fun S nS => ?_⟩
    have gS : Grows H2 (upd H2 S (.lst ((Txt.split z "; ").map V.str))) := Grows.new nS
    have kS : upd H2 S (.lst ((Txt.split z "; ").map V.str)) S = some (.lst ((Txt.split z "; ").map V.str)) := upd_same
    have RS : R ≠ S := ne_of_none kR nS
    have kR3 := gS _ _ kR
    have g3 := g2.trans gS
    have nR0 : ∀ {c o}, H c = some o → c ≠ R := fun e => ne_of_none (g1 _ _ e) nR
    generalize upd H2 S (.lst ((Txt.split z "; ").map V.str)) = H3 at gS kS kR3 g3 ⊢
    generalize Txt.split z "; " = ps at *
    refine ⟨S, _, rfl, .inl (.inl kS), for_it (walk_enum (xs := ps.map V.str)) (fun k σ H' => (∃ v3 v4 v5 : Option V, σ = [some (.str ls), some (.str z), some (.ref R), v3, v4, v5]) ∧ (∀ c o, H3 c = some o → c ≠ R → H' c = some o) ∧ (∀ (j : Nat) (zj : Str), j < k → ps[j]? = some zj → badAt ls j zj = false) ∧ ∃ as : List Addr, H' R = some (.lst (as.map V.ref)) ∧ as.length = k ∧ (∀ a ∈ as, a ≠ R) ∧ ∀ (j : Nat) (a : Addr) (zj : Str) (xs : List V), as[j]? = some a → ps[j]? = some zj → readW zj = some xs → H' a = some (.tup xs))
      ⟨⟨_, _, _, rfl⟩, fun _ _ e _ => e, (fun j zj h => absurd h (Nat.not_lt_zero j)), [], kR3, rfl, (fun a h => by cases h), fun j a zj xs h => by cases h⟩ (fun _ _ H' _ hh => .inl (.inl (hh.2.1 _ _ kS RS.symm))) ?_ ?_⟩
    · rintro k y σ H4 H5 hk ⟨⟨v3, v4, v5, rfl⟩, kk4, prev, as, kR4, al, aR, hrows⟩ ⟨tp, _, u, rfl, ntp, rfl, e1, e2⟩
      have hk : k < ps.length := by rw [List.length_map] at hk; exact hk
      obtain ⟨zk, hzk⟩ : ∃ zk, ps[k]? = some zk := ⟨_, List.getElem?_eq_getElem hk⟩
      have e1' := (Option.some.inj e1).symm
      have e2 : (ps.map V.str)[k]? = some u := e2
      rw [List.getElem?_map, hzk] at e2
      have e2' := (Option.some.inj e2).symm
      subst e1' e2'
      have hm := List.mem_of_getElem? hzk
      have gt : Grows H4 (upd H4 tp (.tup [.int ((k : Nat) : Int), .str zk])) := Grows.new ntp
      refine ⟨tp, _, rfl, .inl (.inl upd_same), rfl, _, _, rfl, _, _, rfl, rfl, ?_⟩
      generalize upd H4 tp (.tup [.int ((k : Nat) : Int), .str zk]) = H5 at gt ⊢
      have hl1 := hps zk hm
      have hc1 : ∀ c ∈ zk.cps.toList, c < 0x110000 := fun c h => hc c ((s3 zk hm).2 c h)
      have base0 : ∀ {H' : Hp}, Grows H4 H' → Grows H H' := fun g c o e => g _ _ (kk4 _ _ (g3 _ _ e) (nR0 e))
      refine ⟨_, rfl, zk, rfl, by omega, fun hn H6 g6 => ?_, fun xs hx a H6 g6 ha => ?_⟩
      · have hb : badAt ls k zk = true := by unfold badAt; rw [hn]
        refine ⟨_, rfl, rfl, _, rfl, if_neg_of (by rw [decide_eq_false (fun e => by have := V.int.inj e; omega)]; decide) ⟨_, rfl, rfl, _, rfl, if_pos_of rfl (if_pos_of rfl ⟨_, rfl, by show 1 ≤ 1000; decide, nt _ H6 fun d H' g hx => qb k zk hzk hb prev d H' (base0 ((gt.trans g6).trans g)) hx⟩)⟩⟩
      · have hin := read_in hx hl1 hc1
        refine ⟨_, rfl, rfl, _, rfl, if_neg_of (by rw [decide_eq_false (fun e => by have := V.int.inj e; omega)]; decide) ⟨_, rfl, rfl, _, rfl, if_neg_of (by rw [decide_eq_false (fun e => by cases e)]; decide) ?_⟩⟩
        refine ⟨_, rfl, _, rfl, _, rfl, ls, .ref a, k, .row xs, rfl, ⟨a, rfl, ha⟩, hin, by omega, fun H7 g7 => ?_⟩
        have eb : badAt ls k zk = !okRowf ls k xs := by unfold badAt; rw [hx]
        have g57 := g6.trans g7
        cases eo : okRowf ls k xs with
        | false =>
          have hb : badAt ls k zk = true := by rw [eb, eo]; rfl
          have eo' : okElf ls k (.row xs) = false := eo
          rw [eo']
          exact ⟨false, rfl, if_pos_of (by decide) ⟨_, rfl, by show 1 ≤ 1000; decide, nt _ H7 fun d H' g hx => qb k zk hzk hb prev d H' (base0 ((gt.trans g57).trans g)) hx⟩⟩
        | true =>
          have hb : badAt ls k zk = false := by rw [eb, eo]; rfl
          have eo' : okElf ls k (.row xs) = true := eo
          rw [eo']
          refine ⟨true, rfl, if_neg_of (by decide) ?_⟩
          have g47 := gt.trans g57
          have kR7 := g47 _ _ kR4
          have ha7 := g7 _ _ ha
          have anR : a ≠ R := fun e => by
            rw [e] at ha7
            rw [ha7] at kR7
            cases kR7
          refine ⟨_, rfl, .inl ⟨rfl, _, .inl (.inl kR7)⟩, _, rfl, R, _, _, rfl, rfl, kR7, by rw [List.length_map, al]; omega, ?_⟩
          refine ⟨⟨_, _, _, rfl⟩, fun c o e n => by rw [upd_ne n]; exact g47 _ _ (kk4 c o e n), fun j zj hj hzj => ?_, as ++ [a], by rw [upd_same, List.map_append]; rfl, by rw [List.length_append, al]; rfl, fun b hb => ?_, fun j b zj ys hb hzj hy => ?_⟩
          · by_cases c : j = k
            · subst c
              rw [hzk] at hzj
              rw [← Option.some.inj hzj]
              exact hb
            · exact prev j zj (by omega) hzj
          · rcases List.mem_append.mp hb with h | h
            · exact aR b h
            · rw [List.mem_singleton.mp h]
              exact anR
          · by_cases c : j < as.length
            · rw [List.getElem?_append_left c] at hb
              rw [upd_ne (aR b (List.mem_of_getElem? hb))]
              exact g47 _ _ (hrows j b zj ys hb hzj hy)
            · have h0 : j - as.length = 0 := by
                have := (List.getElem?_eq_some_iff.mp hb).1
                rw [List.length_append, List.length_singleton] at this
                omega
              rw [List.getElem?_append_right (by omega), h0] at hb
              obtain rfl : a = b := Option.some.inj hb
              rw [show j = k by omega, hzk] at hzj
              rw [← Option.some.inj hzj, hx] at hy
              rw [upd_ne anR, ← Option.some.inj hy]
              exact ha7
    · rintro σ H4 ⟨⟨v3, v4, v5, rfl⟩, kk4, prev, as, kR4, al, aR, hrows⟩
      rw [List.length_map] at al prev
      refine ⟨_, rfl, R, _, rfl, .inl ⟨.inl (.inl kR4), fun p np => ?_⟩⟩
      have gp := Grows.new (o := .tup (as.map V.ref)) np
      exact qg (fun k zk hzk => prev k zk (List.getElem?_eq_some_iff.mp hzk).1 hzk) p as _ (fun c o e => gp _ _ (kk4 _ _ (g3 _ _ e) (nR0 e))) upd_same al fun k a zk xs h1 h2 h3 => gp _ _ (hrows k a zk xs h1 h2 h3)
end
end SWL
set_option Elab.async false
set_option linter.all false
set_option maxRecDepth 100000
set_option maxHeartbeats 8000000
namespace SWL
open PySem PySem.Spec PyProof.Rows L2 LamX TL
def sizesR : List (Key × V) := [(.inr "true", .int 0), (.inr "not", .int 1), (.inr "and", .int 2), (.inr "or", .int 2), (.inr "next", .int 1), (.inr "later", .int 1), (.inr "until", .int 2), (.inr "before", .int 1), (.inr "earlier", .int 1), (.inr "since", .int 2)]
theorem sizesR_val (w : Str) : valV sizesR (.inr w) = (sizeWf w).map nV := by
  unfold sizesR
  by_cases h0 : w = "true"
  · subst h0; rfl
  by_cases h1 : w = "not"
  · subst h1; rfl
  by_cases h2 : w = "and"
  · subst h2; rfl
  by_cases h3 : w = "or"
  · subst h3; rfl
  by_cases h4 : w = "next"
  · subst h4; rfl
  by_cases h5 : w = "later"
  · subst h5; rfl
  by_cases h6 : w = "until"
  · subst h6; rfl
  by_cases h7 : w = "before"
  · subst h7; rfl
  by_cases h8 : w = "earlier"
  · subst h8; rfl
  by_cases h9 : w = "since"
  · subst h9; rfl
  have e : sizeWf w = none := by
    unfold sizeWf
    rw [if_neg h0, if_neg h1, if_neg h2, if_neg h3, if_neg h4, if_neg h5, if_neg h6, if_neg h7, if_neg h8, if_neg h9]
  rw [e]
  have ne : ∀ {z : Str}, ¬ w = z → ¬ (Sum.inr z : Key) = .inr w := fun h c => h (Sum.inr.inj c).symm
  rw [valV_neg (ne h0), valV_neg (ne h1), valV_neg (ne h2), valV_neg (ne h3), valV_neg (ne h4), valV_neg (ne h5), valV_neg (ne h6), valV_neg (ne h7), valV_neg (ne h8), valV_neg (ne h9)]
  rfl
/-- fine: no empty text, figures alone, no zero ahead, at most four -/
theorem fine_fig (y : Str) : (!decide (y = "") && (decide (y.cps.toList.filter (fun c => !isDig c) = []) && ((decide (y = "0") || decide (y.cps.toList[0]? ≠ some 48)) && decide (y.length < 5)))) = figB y := by
  have yl : y.cps.toList.length = y.length := cut_len y
  have e1 : decide (y.cps.toList.filter (fun c => !isDig c) = []) = y.cps.toList.all isDig := by
    rw [Bool.eq_iff_iff, decide_eq_true_eq, List.filter_eq_nil_iff, List.all_eq_true]
    exact ⟨fun h c hc => by have := h c hc; cases q : isDig c with | true => rfl | false => rw [q] at this; exact absurd rfl this, fun h c hc => by rw [h c hc]; decide⟩
  have e2 : decide (y = "") = decide (y.length = 0) := decide_eq_decide.mpr ⟨fun h => by rw [h]; rfl, fun h => by
    obtain ⟨⟨l⟩⟩ := y
    have hl : l.length = 0 := h
    rw [List.length_eq_zero_iff.mp hl]
    rfl⟩
  unfold figB
  rw [e1, e2]
  cases y.cps.toList.all isDig with
  | false => rw [Bool.false_and, Bool.and_false, Bool.and_false, Bool.false_and]
  | true =>
    rw [Bool.true_and, Bool.and_true]
    cases (decide (y = "0") || decide (y.cps.toList[0]? ≠ some 48)) with
    | false => rw [Bool.false_and, Bool.and_false, Bool.and_false]
    | true =>
      rw [Bool.true_and, Bool.and_true]
      by_cases h : 1 ≤ y.length ∧ y.length ≤ 4
      · rw [decide_eq_true h, decide_eq_false (by omega : ¬ y.length = 0), decide_eq_true (by omega : y.length < 5)]
        rfl
      · rw [decide_eq_false h]
        by_cases h0 : y.length = 0
        · rw [decide_eq_true h0]
          rfl
        · rw [decide_eq_false (by omega : ¬ y.length < 5), Bool.and_false]
end SWL
set_option Elab.async false
set_option linter.all false
set_option maxRecDepth 100000
set_option maxHeartbeats 8000000
namespace SWL
open PySem PySem.Spec PyProof.Rows L2 LamX TL
/-! this law's own reading -/
abbrev NLr : List Str := ["letters", "text", "sizes", "rows", "at", "piece", "words", "row", "one", "fine", "sign"]
def spLawRead : Sp := fun vs H Q _ => ∃ ls z : Str, vs = [.str ls, .str z] ∧ z.length ≤ 4000 ∧ (∀ c ∈ z.cps.toList, c < 0x110000) ∧ (∀ p ∈ Txt.split z "; ", p.length ≤ 1000) ∧
    (∀ (k : Nat) (zk : Str), (Txt.split z "; ")[k]? = some zk → badAt ls k zk = true → (∀ (j : Nat) (zj : Str), j < k → (Txt.split z "; ")[j]? = some zj → badAt ls j zj = false) → ∀ t H', Grows H H' → H' t = some (.tup [.non, nV k]) → Q (.ref t) H') ∧
    ((∀ (k : Nat) (zk : Str), (Txt.split z "; ")[k]? = some zk → badAt ls k zk = false) → ∀ (t p : Addr) (as : List Addr) (H' : Hp), Grows H H' → H' t = some (.tup [.ref p, .non]) → H' p = some (.tup (as.map V.ref)) → as.length = (Txt.split z "; ").length → (∀ (k : Nat) (a : Addr) (zk : Str) (xs : List V), as[k]? = some a → (Txt.split z "; ")[k]? = some zk → readW zk = some xs → H' a = some (.tup xs)) → Q (.ref t) H')
section
variable {P : Program} {w : World} {K : PySem.W.Frag} {mg : Str → Option Value} {base : Heap}
theorem scLawRead : FnScope NLr ["letters", "text"] (defScope sLawRead) := ⟨rfl, rfl, rfl, by decide +kernel, rfl, by decide +kernel, by decide +kernel⟩
theorem ok_lawRead {f : Addr} {fd : FuncData} (F : L2.Fun K "_law_read" "_law_read" sLawRead f fd) (B : Blt mg) : FnOk P w K mg base CX0 1 f fd ["letters", "text"] spLawRead := by
  refine F.ok scLawRead (fun vs H Q E h => ?_) (fun cdv A outer s H vs Q E hr h => (fun u64 => ⟨_,
    (pss_cons (ps_par (i := 2) (j := 3) rfl scLawRead.nd rfl rfl (by decide) rfl rfl (pa_cons (pe_disp (pps_cons pe_str pe_int (pps_cons pe_str pe_int (pps_cons pe_str pe_int (pps_cons pe_str pe_int (pps_cons pe_str pe_int (pps_cons pe_str pe_int (pps_cons pe_str pe_int (pps_cons pe_str pe_int (pps_cons pe_str pe_int (pps_cons pe_str pe_int pps_nil)))))))))) (by rfl) (by rfl) (fun z => by cases z) (by decide)) (pa_cons (pe_lst pa_nil) pa_nil)) rfl)
      (pss_cons (ps_for PassesOwn.never rfl (pi_enum (by rfl) B.enum (pa_cons (pe_split (pv 1) pe_str) pa_nil)) (pg_tup rfl (pgs_cons (pg_name (i := 4) scLawRead.nd rfl (Or.inl rfl)) (pgs_cons (pg_name (i := 5) scLawRead.nd rfl (Or.inl rfl)) pgs_nil))) (pss_cons (ps_set (i := 6) scLawRead.nd rfl (Or.inl rfl) (pe_split (pv 5) pe_str))
      (pss_cons (ps_if (pt_cmpR op_eq (pe_callB call_len_str (by rfl) B.len PySem.boot_len (pa_cons (pv 5) pa_nil)) pe_int (nomark _)) (pss_one (ps_set (i := 7) scLawRead.nd rfl (Or.inl rfl) (pe_ifExp (pt_cmpR op_in_sign (pv 5) (pv 0) rfl) (pe_tup (pa_cons pe_str (pa_cons (pv 5) pa_nil))) pe_non))) (pss_one (ps_if (PW.pt (pw_or (pt_cmp (pc_dnotin (hu_of hr) (pe_ix ix_list (pv 6) pe_int (fun _ _ => rfl)) (pv 2)) (by decide)) (pw_or1 (pt_cmpR op_ne (pe_callB call_len_seq (by rfl) B.len PySem.boot_len (pa_cons (pv 6) pa_nil)) (pe_op op_add pe_int (pe_dget (hu_of hr) (pv 2) (pe_ix ix_list (pv 6) pe_int (fun _ _ => rfl)) (fun _ _ => rfl))) (nomark _))))) (pss_one (ps_set (i := 7) scLawRead.nd rfl (Or.inl rfl) pe_non)) (pss_cons (ps_set (i := 7) scLawRead.nd rfl (Or.inl rfl) (pe_tup (pa_cons (pe_ix ix_list (pv 6) pe_int (fun _ _ => rfl)) pa_nil)))
      (pss_one (ps_for PassesOwn.never rfl (pi_list (pe_slice sl_list (pv 6) (po_some pe_int) po_none)) (pg_name (i := 8) scLawRead.nd rfl (Or.inl rfl)) (pss_cons (ps_set (i := 9) scLawRead.nd rfl (Or.inl rfl) (pe_and (pe_cmpR op_ne (pv 8) pe_str (nomark _)) (pe_and (pe_cmpR (op_eqD u64) (pe_lc (own := [("sign", 10)]) (g := (gName 10)) (tt := (tTest (tOp rNotInS (tVar 10) (tC (.str "0123456789"))))) (te := (tVar 10)) rfl scLawRead.nd (pi_str (pv 8)) (blkOk_by (N := NLr) (sc := defScope sLawRead) (by decide +kernel)) (fun _ _ _ _ _ => (pg_name (i := 10) scLawRead.nd rfl (Or.inl rfl))) (fun _ _ _ _ _ => pts_one (pt_cmpR op_notInS (pv 10) pe_str rfl)) (fun _ _ _ _ _ => (pv 10))) (pe_lst pa_nil) (nomark _)) (pe_and (pe_or (pe_cmpR op_eq (pv 8) pe_str (nomark _)) (pe_one (pe_cmpR op_ne (pe_ix ix_str (pv 8) pe_int (fun _ _ => rfl)) pe_str (nomark _)))) (pe_one (pe_cmpR op_lt (pe_callB call_len_str (by rfl) B.len PySem.boot_len (pa_cons (pv 8) pa_nil)) pe_int (nomark _)))))))
      (pss_cons (ps_set (i := 7) scLawRead.nd rfl (Or.inl rfl) (pe_ifExp (PW.pt (pw_and (pt_truth (pv 9) (by intro _; rfl)) (pw_and (pt_cmpR op_notN (pv 7) pe_non (nomark _)) (pw_and1 (pt_cmpR op_lt (pe_callTy call_int_str (by rfl) B.int (by decide +kernel) (pa_cons (pv 8) pa_nil)) (pv 4) (nomark _)))))) (pe_op op_catT (pv 7) (pe_tup (pa_cons (pe_callTy call_int_str (by rfl) B.int (by decide +kernel) (pa_cons (pv 8) pa_nil)) pa_nil))) pe_non))
      (pss_one (ps_if (pt_cmpR op_isN (pv 7) pe_non (nomark _)) (pss_cons (ps_set (i := 7) scLawRead.nd rfl (Or.inl rfl) pe_non)
      (pss_one ps_break)) pss_nil))))))))))
      (pss_cons (ps_if (PW.pt (pw_or (pt_cmpR op_isN (pv 7) pe_non (nomark _)) (pw_or1 (pt_cmpR op_eq (pv 4) pe_int (nomark _))))) (pss_one (ps_ret (pe_tup (pa_cons pe_non (pa_cons (pv 4) pa_nil))))) pss_nil)
      (pss_one (ps_expr (pe_bm PySem.F.plainAttrs_list PySem.F.slot_list_append PySem.F.type_list_append mt_append (pv 3) (pa_cons (pv 7) pa_nil))))))))
      (pss_one (ps_ret (pe_tup (pa_cons (pe_callTy call_tuple_of (by rfl) B.tuple (by decide +kernel) (pa_cons (pv 3) pa_nil)) (pa_cons pe_non pa_nil))))))), ?_⟩) (show (A.deeper (envOfC "_law_read" (defScope sLawRead) s.heap.objs.size f cdv)).units + 64 < cLine by have := hr.un; omega))
  · obtain ⟨ls, z, rfl, _⟩ := h
    rfl
  · obtain ⟨ls, z, rfl, hz, hc, hps, qb, qg⟩ := h
    have sz : sizeLine = 16777216 := sizeLine_eq
    refine fun S nS => ⟨upd_same, sizesR, rfl, by decide, ?_⟩
    have em : mergeK [] sizesR = sizesR := by decide +kernel
    rw [em]
    have gS : Grows H (upd (upd H S (.dK [])) S (.dK sizesR)) := fun c o e => by
      rw [upd_ne (ne_of_none e nS), upd_ne (ne_of_none e nS)]
      exact e
    have kS : upd (upd H S (.dK [])) S (.dK sizesR) S = some (.dK sizesR) := upd_same
    generalize upd (upd H S (.dK [])) S (.dK sizesR) = H1 at gS kS ⊢
    refine ⟨by show 0 ≤ sizeLine; omega, fun R nR => ?_⟩
    have gR : Grows H1 (upd H1 R (.lst [])) := Grows.new nR
    have kR : upd H1 R (.lst []) R = some (.lst []) := upd_same
    have kS2 := gR _ _ kS
    have SR : S ≠ R := ne_of_none kS nR
    have nR0 : ∀ {c o}, H c = some o → c ≠ R := fun e => ne_of_none (gS _ _ e) nR
    have g2 := gS.trans gR
    generalize upd H1 R (.lst []) = H2 at gR kR kS2 g2 ⊢
    refine ⟨_, _, rfl, ?_⟩
    obtain ⟨s1, s2, s3⟩ := split_all (x := z) (y := "; ") (by decide +kernel) (by decide +kernel)
    refine ⟨_, rfl, ⟨_, rfl⟩, z, "; ", rfl, rfl, by decide +kernel, by omega, fun E0 nE0 => ?_⟩
    have gE : Grows H2 (upd H2 E0 (.lst ((Txt.split z "; ").map V.str))) := Grows.new nE0
    have kE : upd H2 E0 (.lst ((Txt.split z "; ").map V.str)) E0 = some (.lst ((Txt.split z "; ").map V.str)) := upd_same
    have RE : R ≠ E0 := ne_of_none kR nE0
    have kR3 := gE _ _ kR
    have kS3 := gE _ _ kS2
    have g3 := g2.trans gE
    generalize upd H2 E0 (.lst ((Txt.split z "; ").map V.str)) = H3 at gE kE kR3 kS3 g3 ⊢
    generalize Txt.split z "; " = ps at *
    refine ⟨E0, _, rfl, .inl (.inl kE), for_it (walk_enum (xs := ps.map V.str)) (fun k σ H' => (∃ v4 v5 v6 v7 v8 v9 v10 : Option V, σ = [some (.str ls), some (.str z), some (.ref S), some (.ref R), v4, v5, v6, v7, v8, v9, v10]) ∧ (∀ c o, H3 c = some o → c ≠ R → H' c = some o) ∧ (∀ (j : Nat) (zj : Str), j < k → ps[j]? = some zj → badAt ls j zj = false) ∧ ∃ as : List Addr, H' R = some (.lst (as.map V.ref)) ∧ as.length = k ∧ (∀ a ∈ as, a ≠ R) ∧ ∀ (j : Nat) (a : Addr) (zj : Str) (xs : List V), as[j]? = some a → ps[j]? = some zj → readW zj = some xs → H' a = some (.tup xs))
      ⟨⟨_, _, _, _, _, _, _, rfl⟩, fun _ _ e _ => e, (fun j zj h => absurd h (Nat.not_lt_zero j)), [], kR3, rfl, (fun a h => by cases h), fun j a zj xs h => by cases h⟩ (fun _ _ H' _ hh => .inl (.inl (hh.2.1 _ _ kE RE.symm))) ?_ ?_⟩
    · rintro k y σ H4 H5 hk ⟨⟨v4, v5, v6, v7, v8, v9, v10, rfl⟩, kk4, prev, as, kR4, al, aR, hrows⟩ ⟨tp, _, u, rfl, ntp, rfl, e1, e2⟩
      have hk : k < ps.length := by rw [List.length_map] at hk; exact hk
      obtain ⟨zk, hzk⟩ : ∃ zk, ps[k]? = some zk := ⟨_, List.getElem?_eq_getElem hk⟩
      have e1' := (Option.some.inj e1).symm
      have e2 : (ps.map V.str)[k]? = some u := e2
      rw [List.getElem?_map, hzk] at e2
      have e2' := (Option.some.inj e2).symm
      subst e1' e2'
      have hm := List.mem_of_getElem? hzk
      have gt : Grows H4 (upd H4 tp (.tup [.int ((k : Nat) : Int), .str zk])) := Grows.new ntp
      refine ⟨tp, _, rfl, .inl (.inl upd_same), rfl, _, _, rfl, _, _, rfl, rfl, ?_⟩
      generalize upd H4 tp (.tup [.int ((k : Nat) : Int), .str zk]) = H5 at gt ⊢
      have hl1 := hps zk hm
      have hc1 : ∀ c ∈ zk.cps.toList, c < 0x110000 := fun c h => hc c ((s3 zk hm).2 c h)
      have base0 : ∀ {H' : Hp}, Grows H4 H' → Grows H H' := fun g c o e => g _ _ (kk4 _ _ (g3 _ _ e) (nR0 e))
      obtain ⟨w1, w2, w3⟩ := split_all (x := zk) (y := " ") (by decide +kernel) (by decide +kernel)
      refine ⟨_, rfl, ⟨_, rfl⟩, zk, " ", rfl, rfl, by decide +kernel, by omega, fun W nW => ?_⟩
      have gW : Grows H5 (upd H5 W (.lst ((Txt.split zk " ").map V.str))) := Grows.new nW
      have kW : upd H5 W (.lst ((Txt.split zk " ").map V.str)) W = some (.lst ((Txt.split zk " ").map V.str)) := upd_same
      generalize upd H5 W (.lst ((Txt.split zk " ").map V.str)) = H6 at gW kW ⊢
      have g46 := gt.trans gW
      have kS6 := g46 _ _ (kk4 _ _ kS3 SR)
      have ra := read_alike ls k zk
      try dsimp only [gName, tSeq, tNext, tAsg]
      refine (?_ : tIfS _ _ _ ?D1 _ _)
      have fin : ∀ (rv : V) (H7 : Hp) (u8 u9 u10 : Option V), Grows H6 H7 → ((badAt ls k zk = true ∧ rv = .non) ∨ ∃ a xs, badAt ls k zk = false ∧ readW zk = some xs ∧ rv = .ref a ∧ H7 a = some (.tup xs)) → Ends.nx ?D1 [some (.str ls), some (.str z), some (.ref S), some (.ref R), some (.int ((k : Nat) : Int)), some (.str zk), some (.ref W), some rv, u8, u9, u10] H7 := fun rv H7 u8 u9 u10 g67 hrv => ?_
      rotate_left
      · have g47 := g46.trans g67
        rcases hrv with ⟨hb, rfl⟩ | ⟨a, xs, hb, hx, rfl, ha7⟩
        · refine ⟨_, rfl, rfl, _, rfl, if_pos_of rfl (if_pos_of rfl ?_)⟩
          exact ⟨_, rfl, by show 2 ≤ sizeLine; omega, fun t nt => qb k zk hzk hb prev t _ (base0 (g47.trans (Grows.new nt))) upd_same⟩
        · refine ⟨_, rfl, rfl, _, rfl, if_neg_of (by rw [decide_eq_false (fun e => by cases e)]; decide) ⟨_, rfl, rfl, _, rfl, if_neg_of (by rw [decide_eq_false (fun e => by have := V.int.inj e; omega)]; decide) ?_⟩⟩
          have kR7 := g47 _ _ kR4
          have anR : a ≠ R := fun e => by
            rw [e] at ha7
            rw [ha7] at kR7
            cases kR7
          refine ⟨_, rfl, .inl ⟨rfl, _, .inl (.inl kR7)⟩, _, rfl, R, _, _, rfl, rfl, kR7, by rw [List.length_map, al]; omega, ?_⟩
          refine ⟨⟨_, _, _, _, _, _, _, rfl⟩, fun c o e n => by rw [upd_ne n]; exact g47 _ _ (kk4 c o e n), fun j zj hj hzj => ?_, as ++ [a], by rw [upd_same, List.map_append]; rfl, by rw [List.length_append, al]; rfl, fun b hb => ?_, fun j b zj ys hb hzj hy => ?_⟩
          · by_cases c : j = k
            · subst c
              rw [hzk] at hzj
              rw [← Option.some.inj hzj]
              exact hb
            · exact prev j zj (by omega) hzj
          · rcases List.mem_append.mp hb with h | h
            · exact aR b h
            · rw [List.mem_singleton.mp h]
              exact anR
          · by_cases c : j < as.length
            · rw [List.getElem?_append_left c] at hb
              rw [upd_ne (aR b (List.mem_of_getElem? hb))]
              exact g47 _ _ (hrows j b zj ys hb hzj hy)
            · have h0 : j - as.length = 0 := by
                have := (List.getElem?_eq_some_iff.mp hb).1
                rw [List.length_append, List.length_singleton] at this
                omega
              rw [List.getElem?_append_right (by omega), h0] at hb
              obtain rfl : a = b := Option.some.inj hb
              rw [show j = k by omega, hzk] at hzj
              rw [← Option.some.inj hzj, hx] at hy
              rw [upd_ne anR, ← Option.some.inj hy]
              exact ha7
      refine ⟨_, rfl, zk, rfl, by omega, rfl, _, rfl, ?_⟩
      by_cases c1 : zk.length = 1
      · refine if_pos_of (decide_eq_true (by rw [c1]; rfl)) ?_
        obtain ⟨d, rfl⟩ : ∃ d, zk = ⟨#[d]⟩ := by
          obtain ⟨⟨l⟩⟩ := zk
          match l, c1 with
          | [d], _ => exact ⟨d, rfl⟩
        have hx : readW (⟨#[d]⟩ : Str) = some [.str "letter", .str ⟨#[d]⟩] := rfl
        have eb : badAt ls k ⟨#[d]⟩ = !decide (d ∈ ls.cps.toList) := by
          unfold badAt
          rw [hx]
          show (!(true && (decide (d ∈ ls.cps.toList) && true))) = _
          rw [Bool.true_and, Bool.and_true]
        refine ⟨_, rfl, _, rfl, d, ls, rfl, rfl, _, rfl, ?_⟩
        by_cases cd : d ∈ ls.cps.toList
        · refine if_pos_of (decide_eq_true cd) ⟨_, rfl, by show 2 ≤ sizeLine; omega, fun t nt => ?_⟩
          exact fin _ _ _ _ _ (Grows.new nt) (.inr ⟨t, _, by rw [eb, decide_eq_true cd]; rfl, hx, rfl, upd_same⟩)
        · exact if_neg_of (by rw [decide_eq_false cd]; decide) (fin _ _ _ _ _ (Grows.refl _) (.inl ⟨by rw [eb, decide_eq_false cd]; rfl, rfl⟩))
      refine if_neg_of (by rw [decide_eq_false (fun e => c1 (by have := V.int.inj e; omega))]; decide) ?_
      have lw : lawW ls k zk = lawP k (Txt.split zk " ") := if_neg c1
      rw [lw] at ra
      have hnone : lawP k (Txt.split zk " ") = none → badAt ls k zk = true := fun e => by
        cases hb : badAt ls k zk with
        | true => rfl
        | false =>
          rw [e, hb, if_neg (by decide)] at ra
          unfold badAt at hb
          rw [← ra] at hb
          cases hb
      have hsome : ∀ xs, lawP k (Txt.split zk " ") = some xs → badAt ls k zk = false ∧ readW zk = some xs := fun xs e => by
        cases hb : badAt ls k zk with
        | true =>
          rw [e, hb, if_pos rfl] at ra
          cases ra
        | false =>
          rw [e, hb, if_neg (by decide)] at ra
          exact ⟨rfl, ra.symm⟩
      clear ra lw
      cases es : Txt.split zk " " with
      | nil => exact absurd es w1
      | cons wd rest =>
        rw [es] at kW w2 w3 hnone hsome
        rw [List.length_cons] at w2
        have i0 : atI ((wd :: rest).map V.str) 0 = some (.str wd) := atI_nat (j := 0) rfl
        have dg := DGet.k (k := Sum.inr wd) kS6
        rw [sizesR_val] at dg
        refine ⟨_, rfl, W, _, _, _, rfl, rfl, .inl (.inl kW), i0, _, rfl, S, _, rfl, dg, _, rfl, ?_⟩
        cases ej : sizeWf wd with
        | none =>
          refine if_pos_of (by rfl) (if_pos_of rfl (fin _ _ _ _ _ (Grows.refl _) (.inl ⟨hnone ?_, rfl⟩)))
          show (match sizeWf wd with | none => none | some n => _) = _
          rw [ej]
        | some n =>
          rw [ej] at dg
          refine if_neg_of (by simp) ?_
          refine ⟨_, rfl, W, _, rfl, .inl (.inl (.inl kW)), _, rfl, _, rfl, W, _, _, _, rfl, rfl, .inl (.inl kW), i0, S, nV n, rfl, dg, _, _, rfl, rfl, rfl, _, rfl, ?_⟩
          have lp : lawP k (wd :: rest) = if rest.length = n ∧ rest.all (fun y => figB y && decide (numOf y < k)) = true then some (.str wd :: rest.map fun y => nV (numOf y)) else none := by
            show (match sizeWf wd with | none => none | some n => _) = _
            rw [ej]
          by_cases cl : rest.length = n
          rotate_left
          · refine if_pos_of (by rw [decide_eq_false (fun e => cl (by have := V.int.inj e; simp only [List.length_map, List.length_cons] at this; omega))]; decide) ?_
            exact fin _ _ _ _ _ (Grows.refl _) (.inl ⟨hnone (by rw [lp]; exact if_neg fun h => cl h.1), rfl⟩)
          refine if_neg_of (by rw [decide_eq_true (congrArg V.int (by simp only [List.length_map, List.length_cons]; omega))]; decide) ?_
          refine ⟨_, rfl, W, _, _, _, rfl, rfl, .inl (.inl kW), i0, by show 1 ≤ sizeLine; omega, fun a0 na0 => ?_⟩
          have ga0 : Grows H6 (upd H6 a0 (.tup [.str wd])) := Grows.new na0
          have ka0 : upd H6 a0 (.tup [.str wd]) a0 = some (.tup [.str wd]) := upd_same
          generalize upd H6 a0 (.tup [.str wd]) = H7 at ga0 ka0 ⊢
          refine ⟨_, rfl, _, rfl, W, _, rfl, .inl (.inl (ga0 _ _ kW)), fun s ns => ?_⟩
          have ec : cutV ((wd :: rest).map V.str) (some 1) none = rest.map V.str := cutV_from _ 1
          rw [ec]
          have gs : Grows H7 (upd H7 s (.lst (rest.map V.str))) := Grows.new ns
          have ks : upd H7 s (.lst (rest.map V.str)) s = some (.lst (rest.map V.str)) := upd_same
          have ka8 := gs _ _ ka0
          generalize upd H7 s (.lst (rest.map V.str)) = H8 at gs ks ka8 ⊢
          have g68 := ga0.trans gs
          refine ⟨s, rfl, ⟨_, .inl (.inl ks)⟩, for_it (walk_listM (I := rest) (gv := V.str)) (fun m σ H' => (∃ (v8 v9 v10 : Option V) (am : Addr), σ = [some (.str ls), some (.str z), some (.ref S), some (.ref R), some (.int ((k : Nat) : Int)), some (.str zk), some (.ref W), some (.ref am), v8, v9, v10] ∧ H' am = some (.tup (.str wd :: (rest.take m).map fun y => nV (numOf y)))) ∧ Grows H8 H' ∧ ∀ y ∈ rest.take m, (figB y && decide (numOf y < k)) = true)
            ⟨⟨_, _, _, a0, rfl, ka8⟩, Grows.refl _, fun y h => by cases h⟩ (fun _ _ H' _ hh => .inl (.inl (hh.2.1 _ _ ks))) ?_ ?_⟩
          · rintro m y σ H9x H9 hm2 ⟨⟨u8, u9, u10, am, rfl, kam⟩, g89, hgood⟩ ⟨rfl, hy⟩
            obtain ⟨y', hy'⟩ : ∃ y', rest[m]? = some y' := ⟨_, List.getElem?_eq_getElem hm2⟩
            rw [List.getElem?_map, hy'] at hy
            obtain rfl := Option.some.inj hy
            have ym := List.mem_of_getElem? hy'
            obtain ⟨yl, yc⟩ := w3 y' (List.mem_cons_of_mem _ ym)
            dsimp only [gName, tSeq, tNext, tAsg]
            refine (?_ : tAndV _ _ _ _ ?Q8)
            have fin8 : ∀ (b : Bool) (H' : Hp), b = figB y' → Grows H9 H' → ?Q8 (.bl b) H' := fun b H10 hb g910 => ?_
            · have ff := fine_fig y'
              have yl5 : y'.length ≤ 1000 := by omega
              refine ⟨_, rfl, rfl, _, rfl, ?_⟩
              by_cases y0 : y' = ""
              · exact if_neg_of (by rw [decide_eq_true (congrArg V.str y0)]; decide) (fin8 false H9 (by rw [← ff, decide_eq_true y0]; rfl) (Grows.refl _))
              refine if_pos_of (by rw [decide_eq_false (fun e => y0 (V.str.inj e))]; decide) ?_
              rw [decide_eq_false y0] at ff
              refine ⟨_, rfl, y', rfl, fun D nD => comp (xs := signsV y') (walk_signs y') (fun x => !isDig (sign0 x)) (fun x => x) nD (fun _ _ => trivial) (by rw [signs_len]; omega) (fun x H k2 hx g hk2 => ?_) (fun x H Q hx _ g hq => ?_) (fun H10 g910 hD => ?_)⟩
              · obtain ⟨c, hcc, rfl⟩ := signs_mem hx
                have := hk2 H (Grows.refl H)
                have e : (!isDig (sign0 (V.str ⟨#[c]⟩))) = !decide (c ∈ figS.cps.toList) := by rw [fig_dig]; rfl
                rw [e] at this
                exact ⟨_, rfl, c, figS, rfl, rfl, _, rfl, this⟩
              · exact ⟨_, rfl, hq H (Grows.refl H)⟩
              rw [List.map_id'] at hD
              refine ⟨by show 0 ≤ sizeLine; omega, fun p0 np0 => ?_⟩
              have g0 : Grows H10 (upd H10 p0 (.lst [])) := Grows.new np0
              have k0 : upd H10 p0 (.lst []) p0 = some (.lst []) := upd_same
              generalize upd H10 p0 (.lst []) = H11 at g0 k0 ⊢
              have g911 := g910.trans g0
              have fx : ∀ x ∈ (signsV y').filter (fun x => !isDig (sign0 x)), ∃ c ∈ y'.cps.toList, x = .str ⟨#[c]⟩ := fun x hx => by
                obtain ⟨c, hcc, e⟩ := signs_mem (List.mem_filter.mp hx).1
                exact ⟨c, hcc, e⟩
              have cz := fl_can (xs := (signsV y').filter (fun x => !isDig (sign0 x))) (fun q hq => by
                obtain ⟨c, hcc, e⟩ := fx _ hq
                rw [V.str.inj e]
                refine ⟨by show 1 ≤ 1000; decide, strOk_of fun d hd => ?_⟩
                rw [show d = c from List.mem_singleton.mp hd]
                exact hc1 c (yc c hcc))
              refine ⟨.list (((signsV y').filter (fun x => !isDig (sign0 x))).map flD), .list [], .lst (.inl (.inl (g0 _ _ hD))) (fl_dp fun x hx => by obtain ⟨c, _, rfl⟩ := fx x hx; exact True.intro), .lst (.inl (.inl k0)) .nil, ?_, by decide +kernel, _, rfl, ?_⟩
              · show (PyData.canLay0 _ && decide (PyData.depth _ ≤ 64)) = true
                rw [PyData.canLay0, PyData.depth, cz.1, cz.2]
                rfl
              have en : ∀ l : List PyData, PyData.eqv (.list l) (.list []) = decide (l = []) := fun l => by cases l <;> rfl
              have e5 : decide (((signsV y').filter (fun x => !isDig (sign0 x))).map flD = []) = decide (y'.cps.toList.filter (fun c => !isDig c) = []) := by
                refine decide_eq_decide.mpr ?_
                rw [List.map_eq_nil_iff]
                unfold signsV
                rw [List.filter_map, List.map_eq_nil_iff]
                exact Iff.rfl
              rw [en, e5]
              rw [Bool.not_false, Bool.true_and] at ff
              cases e6 : decide (y'.cps.toList.filter (fun c => !isDig c) = []) with
              | false =>
                rw [e6, Bool.false_and] at ff
                exact if_neg_of (by decide) (fin8 false H11 ff g911)
              | true =>
                rw [e6, Bool.true_and] at ff
                refine if_pos_of rfl ?_
                have lt5 : ∀ b : Bool, b = (decide (y' = "0") || decide (y'.cps.toList[0]? ≠ some 48)) → (b && decide (y'.length < 5)) = figB y' := fun b hb => by rw [hb]; exact ff
                refine ⟨_, rfl, rfl, _, rfl, ?_⟩
                by_cases c3 : y' = "0"
                · refine if_pos_of (decide_eq_true (congrArg V.str c3)) ⟨true, rfl, if_pos_of rfl ⟨_, rfl, y', rfl, by omega, _, _, rfl, rfl, fin8 _ H11 ?_ g911⟩⟩
                  have := lt5 true (by rw [decide_eq_true c3]; rfl)
                  rw [← this, Bool.true_and]
                  exact decide_eq_decide.mpr (by omega)
                · refine if_neg_of (by rw [decide_eq_false (fun e => c3 (V.str.inj e))]; decide) ?_
                  have ycl := cut_len y'
                  have yn : y'.length ≠ 0 := fun h => y0 (by
                    obtain ⟨⟨l⟩⟩ := y'
                    have hl : l.length = 0 := h
                    rw [List.length_eq_zero_iff.mp hl]
                    rfl)
                  obtain ⟨d, hd⟩ : ∃ d, y'.cps.toList[0]? = some d := ⟨_, List.getElem?_eq_getElem (by omega)⟩
                  refine ⟨_, rfl, y', 0, d, rfl, rfl, by omega, atI_nat (j := 0) hd, rfl, ?_⟩
                  have e3 : (!decide (V.str ⟨#[d]⟩ = V.str "0")) = (decide (y' = "0") || decide (y'.cps.toList[0]? ≠ some 48)) := by
                    rw [hd, decide_eq_false c3, Bool.false_or]
                    have e4 : decide (V.str ⟨#[d]⟩ = V.str "0") = decide (d = 48) := decide_eq_decide.mpr ⟨fun h => sg_inj (V.str.inj h), fun h => by rw [h]; rfl⟩
                    rw [e4]
                    by_cases hd48 : d = 48
                    · subst hd48; rfl
                    · rw [decide_eq_false hd48]
                      have ne : (some d : Option Nat) ≠ some 48 := fun e => hd48 (Option.some.inj e)
                      exact (decide_eq_true ne).symm
                  have l5 := lt5 _ e3
                  cases e7 : decide (V.str ⟨#[d]⟩ = V.str "0") with
                  | true =>
                    rw [e7] at l5
                    exact ⟨_, rfl, if_neg_of (by decide) (fin8 false H11 l5 g911)⟩
                  | false =>
                    rw [e7] at l5
                    refine ⟨_, rfl, if_pos_of rfl ⟨_, rfl, y', rfl, by omega, _, _, rfl, rfl, fin8 _ H11 ?_ g911⟩⟩
                    rw [← l5, Bool.not_false, Bool.true_and]
                    exact decide_eq_decide.mpr (by omega)
            have kam10 := g910 _ _ kam
            have g810 := g89.trans g910
            have tkm : rest.take (m + 1) = rest.take m ++ [y'] := take_snoc hy'
            have badR : (figB y' && decide (numOf y' < k)) = false → badAt ls k zk = true := fun e => hnone (lp.trans (if_neg fun h => by
              have := List.all_eq_true.mp h.2 y' ym
              rw [e] at this
              cases this))
            refine ⟨_, rfl, b, rfl, ?_⟩
            cases b with
            | false =>
              refine if_neg_of (by decide) (if_neg_of (by decide) ?_)
              refine ⟨_, rfl, rfl, _, rfl, if_pos_of rfl ?_⟩
              exact fin _ _ _ _ _ (g68.trans g810) (.inl ⟨badR (by rw [← hb]; rfl), rfl⟩)
            | true =>
              obtain ⟨i1, i2⟩ := figB_int hb.symm
              refine if_pos_of rfl ⟨_, rfl, rfl, _, rfl, if_pos_of (by rw [decide_eq_false (fun e => by cases e)]; decide) ?_⟩
              refine ⟨_, rfl, y', _, rfl, i1, by omega, _, rfl, _, _, rfl, rfl, _, rfl, ?_⟩
              by_cases ck : numOf y' < k
              · refine if_pos_of (decide_eq_true (by omega)) ?_
                refine ⟨_, rfl, _, rfl, y', _, rfl, i1, by omega, by show 1 ≤ sizeLine; omega, fun t nt => ?_⟩
                have gt2 : Grows H10 (upd H10 t (.tup [.int ((numOf y' : Nat) : Int)])) := Grows.new nt
                have kt2 : upd H10 t (.tup [.int ((numOf y' : Nat) : Int)]) t = some (.tup [.int ((numOf y' : Nat) : Int)]) := upd_same
                generalize upd H10 t (.tup [.int ((numOf y' : Nat) : Int)]) = H11 at gt2 kt2 ⊢
                refine ⟨am, t, _, _, rfl, rfl, .inl (.inl (gt2 _ _ kam10)), .inl (.inl kt2), by simp, by simp only [List.length_cons, List.length_map, List.length_take, List.length_nil]; omega, (fun e => by cases e), fun _ p np => ?_⟩
                have gp := Grows.new (o := .tup (.str wd :: (rest.take m).map (fun y => nV (numOf y)) ++ [.int ((numOf y' : Nat) : Int)])) np
                refine ⟨_, rfl, rfl, _, rfl, if_neg_of (by rw [decide_eq_false (fun e => by cases e)]; decide) ?_⟩
                refine ⟨⟨_, _, _, p, rfl, ?_⟩, (g810.trans gt2).trans gp, fun y hy2 => ?_⟩
                · rw [upd_same, tkm, List.map_append]
                  rfl
                · rw [tkm] at hy2
                  rcases List.mem_append.mp hy2 with h | h
                  · exact hgood y h
                  · rw [List.mem_singleton.mp h, ← hb, decide_eq_true ck]
                    rfl
              · refine if_neg_of (by rw [decide_eq_false (by omega)]; decide) ?_
                refine ⟨_, rfl, rfl, _, rfl, if_pos_of rfl ?_⟩
                exact fin _ _ _ _ _ (g68.trans g810) (.inl ⟨badR (by rw [decide_eq_false ck, Bool.and_false]), rfl⟩)
          · rintro σ H9 ⟨⟨u8, u9, u10, am, rfl, kam⟩, g89, hgood⟩
            rw [List.take_length] at kam hgood
            obtain ⟨b1, b2⟩ := hsome _ (lp.trans (if_pos ⟨cl, List.all_eq_true.mpr hgood⟩))
            exact fin _ _ _ _ _ (g68.trans g89) (.inr ⟨am, _, b1, b2, rfl, kam⟩)
    · rintro σ H4 ⟨⟨v4, v5, v6, v7, v8, v9, v10, rfl⟩, kk4, prev, as, kR4, al, aR, hrows⟩
      rw [List.length_map] at al prev
      refine ⟨_, rfl, R, _, rfl, .inl ⟨.inl (.inl kR4), fun p np => ?_⟩⟩
      have gp : Grows H4 (upd H4 p (.tup (as.map V.ref))) := Grows.new np
      have kp : upd H4 p (.tup (as.map V.ref)) p = some (.tup (as.map V.ref)) := upd_same
      generalize upd H4 p (.tup (as.map V.ref)) = H5 at gp kp ⊢
      refine ⟨by show 2 ≤ sizeLine; omega, fun t nt => ?_⟩
      have gt := Grows.new (o := .tup [.ref p, .non]) nt
      exact qg (fun k zk hzk => prev k zk (List.getElem?_eq_some_iff.mp hzk).1 hzk) t p as _ (fun c o e => gt _ _ (gp _ _ (kk4 _ _ (g3 _ _ e) (nR0 e)))) upd_same (gt _ _ kp) al fun k a zk xs h1 h2 h3 => gt _ _ (gp _ _ (hrows k a zk xs h1 h2 h3))
end
end SWL
set_option Elab.async false
set_option linter.all false
set_option maxRecDepth 100000
set_option maxHeartbeats 8000000
namespace SWL
open PySem PySem.Spec PyProof.Rows L2 LamX TL
/-! this law's own text of a formula -/
def outScope : Scope := match defBody sTextOf with
  | [.Return (some (.Call _ [.ListComp _ _ sc _] _ _)) _] => sc
  | _ => defScope sTextOf
abbrev NTo : List Str := ["formula", "row", "one"]
def teTO (K : PySem.W.Frag) : TE := tIf (tTest (tOp rEq (tOp (rIxT K) (tVar 1) (tC (.int 0))) (tC (.str "letter")))) (tOp (rIxT K) (tVar 1) (tC (.int 1)))
  (tM1 (fun x xs H Q => ∃ a p, ∃ ys : List Str, x = .str a ∧ xs = [.ref p] ∧ (SqL K H p (ys.map V.str) ∨ SqT K H p (ys.map V.str)) ∧ (ys.map (·.length)).sum + ys.length * a.length ≤ 16777216 ∧ Q (.str (Txt.join a ys)) H) (tC (.str " ")) (tLc (iTup K (tVar 1)) (gName 2) tYes (tCB rStr2 (tCons (tVar 2) tNil)) [2]))
def spTextOf : Sp := fun vs H Q _ => ∃ (v : V) (F : List Rf), vs = [v] ∧ FormAtf H v F ∧ F.length ≤ 100 ∧ (∀ r ∈ F, Small r) ∧ ∀ H', Grows H H' → Q (.str (textOf F)) H'
section
variable {P : Program} {w : World} {K : PySem.W.Frag} {mg : Str → Option Value} {base : Heap}
theorem scTextOf : FnScope NTo ["formula"] (defScope sTextOf) := ⟨rfl, rfl, rfl, by decide +kernel, rfl, by decide +kernel, by decide +kernel⟩
theorem ok_textOf {f : Addr} {fd : FuncData} (F : L2.Fun K "_law_text_of" "_law_text_of" sTextOf f fd) (B : Blt mg) : FnOk P w K mg base CX0 1 f fd ["formula"] spTextOf := by
  refine F.ok scTextOf (fun vs H Q E h => ?_) (fun cdv A outer s H vs Q E hr h => ⟨_,
    (pss_one (ps_ret (pe_join pe_str (pe_lc (own := [("row", 1)]) (g := (gName 1)) (tt := tYes) (te := (teTO K)) rfl scTextOf.nd (pi_tup (pv 0)) (blkOk_by (N := NTo) (sc := defScope sTextOf) (by decide +kernel)) (fun _ _ _ _ _ => (pg_name (i := 1) scTextOf.nd rfl (Or.inl rfl))) (fun _ _ _ _ _ => pts_nil) (fun _ _ _ _ _ => (pe_ifExp (pt_cmpR op_eq (pe_ix ix_tup (pv 1) pe_int (fun _ _ => rfl)) pe_str (nomark _)) (pe_ix ix_tup (pv 1) pe_int (fun _ _ => rfl)) (pe_join pe_str (pe_lc (own := [("one", 2)]) (g := (gName 2)) (tt := tYes) (te := (tCB rStr2 (tCons (tVar 2) tNil))) rfl scTextOf.nd (pi_tup (pv 1)) (blkOk_by (N := NTo) (sc := outScope) (by decide +kernel)) (fun _ _ _ _ _ => (pg_name (i := 2) scTextOf.nd rfl (Or.inl rfl))) (fun _ _ _ _ _ => pts_nil) (fun _ _ _ _ _ => (pe_callTy cr_str2 (by rfl) B.str (by decide +kernel) (pa_cons (pv 2) pa_nil))))))))))), ?_⟩)
  · obtain ⟨v, F, rfl, _⟩ := h
    rfl
  · obtain ⟨v, F, rfl, hF, f2, sm, q⟩ := h
    have sz : sizeLine = 16777216 := sizeLine_eq
    obtain ⟨p, as, rfl, hp, hl, hrow⟩ := hF
    refine ⟨⟨_, rfl⟩, ?_⟩
    refine ⟨_, rfl, p, rfl, ⟨_, .inl (.inl hp)⟩, fun D nD => ?_⟩
    refine lc_it (walk_tup (xs := as.map V.ref)) (fun k H' => Grows H H' ∧ H' D = some (.lst (((F.take k).map pieceOf).map V.str))) ⟨Grows.new nD, upd_same⟩ (fun _ H' _ hh => .inl (.inl (hh.1 _ _ hp))) ?_ ?_
    · rintro k y H2x H2 hk ⟨g2, kD⟩ ⟨rfl, hy⟩
      have hk : k < F.length := by rw [List.length_map] at hk; omega
      obtain ⟨r, hr⟩ : ∃ r, F[k]? = some r := ⟨_, List.getElem?_eq_getElem hk⟩
      obtain ⟨a, ha⟩ : ∃ a, as[k]? = some a := ⟨_, List.getElem?_eq_getElem (by omega)⟩
      rw [List.getElem?_map, ha] at hy
      obtain rfl := Option.some.inj hy
      have hra := g2 _ _ (hrow k a r ha hr)
      have hs := sm r (List.mem_of_getElem? hr)
      refine ⟨rfl, ?_⟩
      have fin : ∀ H3, Grows H2 H3 → ∃ acc, H3 D = some (.lst acc) ∧ acc.length < sizeLine ∧ (Grows H (upd H3 D (.lst (acc ++ [V.str (pieceOf r)]))) ∧ upd H3 D (.lst (acc ++ [V.str (pieceOf r)])) D = some (.lst (((F.take (k + 1)).map pieceOf).map V.str))) := fun H3 g3 => by
        refine ⟨_, g3 _ _ kD, by rw [List.length_map, List.length_map, List.length_take]; omega, fun c o e => ?_, ?_⟩
        · rw [upd_ne (ne_of_none e nD)]
          exact g3 _ _ (g2 _ _ e)
        · rw [upd_same, take_snoc hr, List.map_append, List.map_append]
          rfl
      unfold teTO
      by_cases hw : r.word = "letter"
      · obtain ⟨c, rfl⟩ : ∃ c, r = .let_ c := by
          cases r with
          | let_ c => exact ⟨c, rfl⟩
          | tru => exact absurd hw (show ¬ ("true" : Str) = "letter" by decide +kernel)
          | nt i => exact absurd hw (show ¬ ("not" : Str) = "letter" by decide +kernel)
          | an i j => exact absurd hw (show ¬ ("and" : Str) = "letter" by decide +kernel)
          | or_ i j => exact absurd hw (show ¬ ("or" : Str) = "letter" by decide +kernel)
          | nx i => exact absurd hw (show ¬ ("next" : Str) = "letter" by decide +kernel)
          | la i => exact absurd hw (show ¬ ("later" : Str) = "letter" by decide +kernel)
          | un i j => exact absurd hw (show ¬ ("until" : Str) = "letter" by decide +kernel)
          | be i => exact absurd hw (show ¬ ("before" : Str) = "letter" by decide +kernel)
          | ea i => exact absurd hw (show ¬ ("earlier" : Str) = "letter" by decide +kernel)
          | si i j => exact absurd hw (show ¬ ("since" : Str) = "letter" by decide +kernel)
        exact ⟨_, rfl, a, _, _, _, rfl, rfl, .inl (.inl hra), (Rf.let_ c).word0, rfl, _, rfl, if_pos_of (decide_eq_true (congrArg V.str hw)) ⟨_, rfl, a, _, _, _, rfl, rfl, .inl (.inl hra), atI_nat (j := 1) rfl, fin H2 (Grows.refl H2)⟩⟩
      · refine ⟨_, rfl, a, _, _, _, rfl, rfl, .inl (.inl hra), r.word0, rfl, _, rfl, if_neg_of (by rw [decide_eq_false (fun e => hw (V.str.inj e))]; decide) ?_⟩
        obtain ⟨wl, w3⟩ := words_len hs
        have vl : r.vs.length ≤ 3 := by
          rw [r.vs_eq, List.length_cons, Rf.notLetter hw, List.length_map]
          have := r.refs_len
          omega
        refine ⟨⟨_, rfl⟩, ?_⟩
        refine ⟨_, rfl, a, rfl, ⟨_, .inl (.inl hra)⟩, fun D2 nD2 => ?_⟩
        refine comp (xs := r.vs) walk_tup (fun _ => true) txtV nD2 (fun H3 g3 => .inl (.inl (g3 _ _ hra))) (by omega) (fun x H k _ g hk => hk H (Grows.refl H)) (fun x H3 Q hx _ g3 hq => ?_) (fun H3 g3 hD2 => ?_)
        · rw [r.vs_eq, Rf.notLetter hw] at hx
          rcases List.mem_cons.mp hx with rfl | hx
          · exact ⟨_, rfl, .inl ⟨_, rfl, hq H3 (Grows.refl H3)⟩⟩
          · obtain ⟨i, hi, rfl⟩ := List.mem_map.mp hx
            exact ⟨_, rfl, .inr ⟨_, rfl, log_small (hs i hi), hq H3 (Grows.refl H3)⟩⟩
        · rw [filter_yes] at hD2
          have e : r.vs.map txtV = r.words.map V.str := by
            rw [r.vs_eq, Rf.notLetter hw]
            unfold Rf.words
            rw [List.map_cons, List.map_cons, List.map_map, List.map_map]
            rfl
          rw [e] at hD2
          have hsum := sum_le (fun z : Str => z.length) 7 r.words wl
          have fin := fin H3 g3
          rw [r.sel hw] at fin
          exact ⟨" ", D2, r.words, rfl, rfl, .inl (.inl (.inl hD2)), by have : (" " : Str).length = 1 := rfl; rw [this]; omega, fin⟩
    · rintro H2 ⟨g2, kD⟩
      rw [List.length_map, hl, List.take_length] at kD
      have tl := text_len (F := F) sm
      exact ⟨"; ", D, F.map pieceOf, rfl, rfl, .inl (.inl (.inl kD)), by omega, q H2 g2⟩
end
end SWL
set_option Elab.async false
set_option linter.all false
set_option maxRecDepth 100000
set_option maxHeartbeats 8000000
namespace SWL
open PySem PySem.Spec PyProof.Rows L2 LamX
/-! a dict of the top: what is not among its keys -/
theorem nsIn_none {K : PySem.W.Frag} {P : Params} {d : Addr} {es : Array DictEntry} {n : Nat} {ks : List Str} {z : Str} (hl : K.lookup d = some ⟨.type "dict", none, .dict es n, #[]⟩) (hk : es.toList.map He.keyOf = He.keysIn P ks) (hz : z ∉ ks) : PySem.W.nsIn K d z = some none := by
  have key : ∀ e ∈ es.toList, ∃ x t, e.key = .str x t ∧ x ∈ ks := fun e he => by
    have h1 : He.keyOf e ∈ es.toList.map He.keyOf := List.mem_map.mpr ⟨e, he, rfl⟩
    rw [hk] at h1
    obtain ⟨x, hx, e1⟩ := List.mem_map.mp h1
    unfold He.keyOf at e1
    split at e1
    · rename_i y t q
      obtain ⟨e2, _⟩ := Prod.mk.inj (Option.some.inj e1)
      exact ⟨y, t, q, by rw [← e2]; exact hx⟩
    · cases e1
  have h1 : es.toList.find? (fun e => e.key.isStr z) = none := List.find?_eq_none.mpr fun e he c => by
    obtain ⟨x, t, e1, hx⟩ := key e he
    rw [e1] at c
    have c : (x == z) = true := c
    rw [← beq_iff_eq.mp c] at hz
    exact hz hx
  have h2 : es.toList.any (fun e => e.refKey) = false := by
    rw [Bool.eq_false_iff]
    intro c
    obtain ⟨e, he, h⟩ := List.any_eq_true.mp c
    obtain ⟨x, t, e1, hx⟩ := key e he
    unfold DictEntry.refKey at h
    rw [e1] at h
    cases h
  unfold PySem.W.nsIn
  rw [hl]
  show (match es.toList.find? (fun e => e.key.isStr z) with | some e => some (some e.val) | none => if es.toList.any (fun e => e.refKey) then none else some none) = some none
  rw [h1, h2]
  rfl
end SWL
set_option Elab.async false
set_option linter.all false
set_option maxRecDepth 100000
set_option maxHeartbeats 8000000
namespace SWL
open PySem PySem.Spec PyProof.Rows L2 LamX TL
/-! the row that a refusal of a text tells -/
def spRefused (K : PySem.W.Frag) : Sp := fun vs H Q _ => ∃ (ls : Str) (v : V), vs = [.str ls, v] ∧ ls.length ≤ sizeLine ∧ okLetters ls = true ∧ ((NotStr K H v ∧ ∀ H', Grows H H' → Q (.int 0) H') ∨
  ∃ z : Str, v = .str z ∧ z.length ≤ 4000 ∧ (∀ c ∈ z.cps.toList, c < 0x110000) ∧ (∀ p ∈ Txt.split z "; ", p.length ≤ 1000) ∧
    (∀ k zk, (Txt.split z "; ")[k]? = some zk → badAt ls k zk = true → (∀ j zj, j < k → (Txt.split z "; ")[j]? = some zj → badAt ls j zj = false) → ∀ H', Grows H H' → Q (nV k) H') ∧
    ((∀ k zk, (Txt.split z "; ")[k]? = some zk → badAt ls k zk = false) → ∀ H', Grows H H' → Q .non H'))
/-- what of NoText's class the suite asks -/
structure NoTextX (K : PySem.W.Frag) (mg : Str → Option Value) (C : Addr) : Prop where
  g : mg "NoText" = some (.ref C)
  xf : XfC K C
  at_ : PySem.W.findIn K (.ref C) "at" = some none
  exm : PySem.W.exmOne K (.ref C) (.ref C) = some true
abbrev NRx : List Str := ["letters", "text", "found", "error"]
section
variable {P : Program} {w : World} {K : PySem.W.Frag} {mg : Str → Option Value} {base : Heap}
theorem scRefused : FnScope NRx ["letters", "text"] (defScope sRefused) := ⟨rfl, rfl, rfl, by decide +kernel, rfl, by decide +kernel, by decide +kernel⟩
theorem ok_refused {f fR CN CT : Addr} {fd fdR : FuncData} (F : L2.Fun K "_law_refused" "_law_refused" sRefused f fd) (NT : NoTextX K mg CT)
    (GR : FnOk P w K mg base (L2.CX P w) 6 fR fdR ["letters", "text"] (spReadF K CN CT)) (DR : Def mg K "read_formula" fR fdR ["letters", "text"]) : FnOk P w K mg base CX0 7 f fd ["letters", "text"] (spRefused K) := by
  have XF := NT.xf
  refine F.ok scRefused (fun vs H Q E h => ?_) (fun cdv A outer s H vs Q E hr h => ⟨_,
    (pss_cons (ps_set (i := 2) scRefused.nd rfl (Or.inl rfl) pe_non)
      (pss_cons (ps_try_as (i := 3) (tb := fun W => tDrop (tCallS (spReadF K CN CT) (WE W) (tCons (tVar 0) (tCons (tVar 1) tNil)))) (ts := fun a cls d => tAsg (tXf a cls d CT "at" (tVar 3)) (gName 2)) (Wout := fun _ _ _ _ => False) rfl rfl scRefused.nd rfl rfl ⟨by rfl, by decide, Or.inl NT.g⟩ L2.takes0
      (fun W pn xe tk _ => pss_one (ps_expr (pe_callS GR (hr.mono (by decide)) (by rfl) DR.g DR.k DR.b (fun σ => passAt tk σ) (pa_cons (pv 0) (pa_cons (pv 1) pa_nil)))))
      (fun a oe cls d pn hz hf => pss_one (ps_set (i := 2) scRefused.nd rfl (Or.inl rfl) (pe_xf XF NT.at_ hz hf (pv 3)))))
      (pss_one (ps_ret (pv 2))))), ?_⟩)
  · obtain ⟨ls, v, rfl, _⟩ := h
    rfl
  · obtain ⟨ls, v, rfl, hls, hok, h⟩ := h
    have seen : ∀ (y : V) (d : Addr) (H' : Hp), H' d = some (.xd [("at", y)]) → Q y H' → ∃ b, PySem.W.exmOne K (.ref CT) (.ref CT) = some b ∧ (b = true → ∀ a, H' a = none → tAsg (tXf a (.ref CT) (some d) CT "at" (tVar 3)) (gName 2) { nx := fun σ' H'' => tRet (tVar 2) { nx := fun _ H3 => Q .non H3, rt := Q } (σ'.set 3 none) H'', rt := Q } [some (.str ls), some v, some .non, some (.ref a)] H') ∧ (b = false → False) := fun y d H' hd q =>
      ⟨true, NT.exm, fun _ a na => ⟨_, rfl, rfl, rfl, d, _, y, rfl, hd, rfl, _, rfl, q⟩, fun q => Bool.noConfusion q⟩
    refine ⟨_, rfl, _, rfl, .str ls, v, rfl, .inr ⟨ls, rfl, hls, hok, ?_⟩⟩
    rcases h with ⟨hn, q⟩ | ⟨z, rfl, hz, hc, hp, qb, qg⟩
    · exact .inl ⟨hn, fun d H' g hd => seen _ d H' hd (q H' g)⟩
    · refine .inr ⟨z, rfl, hz, hc, hp, fun k zk h1 h2 h3 d H' g hd => seen _ d H' hd (qb k zk h1 h2 h3 H' g), fun ha p as H' g _ _ _ => ?_⟩
      exact ⟨_, rfl, qg ha H' g⟩
end
end SWL
set_option Elab.async false
set_option linter.all false
set_option maxRecDepth 100000
set_option maxHeartbeats 8000000
namespace SWL
open PySem PySem.Spec PyProof.Rows L2 LamX TL
/-! read rows, as data -/
def ReadAt (H : Hp) (v : V) (zs : List Str) : Prop := ∃ (p : Addr) (as : List Addr), v = .ref p ∧ H p = some (.tup (as.map V.ref)) ∧ as.length = zs.length ∧ ∀ (k : Nat) (a : Addr) (zk : Str) (xs : List V), as[k]? = some a → zs[k]? = some zk → readW zk = some xs → H a = some (.tup xs)
def Fine (ls : Str) (zs : List Str) : Prop := ∀ (k : Nat) (zk : Str), zs[k]? = some zk → badAt ls k zk = false
theorem ReadAt.grows {H H' : Hp} (g : Grows H H') {v : V} {zs : List Str} (h : ReadAt H v zs) : ReadAt H' v zs := by
  obtain ⟨p, as, h1, h2, h3, h4⟩ := h
  exact ⟨p, as, h1, g _ _ h2, h3, fun k a zk xs e1 e2 e3 => g _ _ (h4 k a zk xs e1 e2 e3)⟩
theorem ReadAt.but {H H' : Hp} {a g : Addr} {v : V} {zs : List Str} (h : ReadAt H v zs) (x : But H H' a g) (o : Off H a g) : ReadAt H' v zs := by
  obtain ⟨p, as, h1, h2, h3, h4⟩ := h
  exact ⟨p, as, h1, x.tups o _ _ h2, h3, fun k b zk xs e1 e2 e3 => x.tups o _ _ (h4 k b zk xs e1 e2 e3)⟩
theorem FormAtf.read {H : Hp} {v : V} {F : List Rf} (h : FormAtf H v F) (sm : ∀ r ∈ F, Small r) : ReadAt H v (F.map pieceOf) := by
  obtain ⟨p, as, h1, h2, h3, h4⟩ := h
  refine ⟨p, as, h1, h2, by rw [List.length_map, h3], fun k a zk xs e1 e2 e3 => ?_⟩
  rw [List.getElem?_map] at e2
  cases e : F[k]? with
  | none => rw [e] at e2; cases e2
  | some r =>
    rw [e] at e2
    have e2 := (Option.some.inj e2).symm
    subst e2
    rw [read_piece (sm r (List.mem_of_getElem? e))] at e3
    rw [← Option.some.inj e3]
    exact h4 k a r e1 e
theorem ReadAt.form {H : Hp} {v : V} {F : List Rf} (h : ReadAt H v (F.map pieceOf)) (sm : ∀ r ∈ F, Small r) : FormAtf H v F := by
  obtain ⟨p, as, h1, h2, h3, h4⟩ := h
  refine ⟨p, as, h1, h2, by rw [h3, List.length_map], fun k a r e1 e2 => ?_⟩
  exact h4 k a (pieceOf r) r.vs e1 (by rw [List.getElem?_map, e2]; rfl) (read_piece (sm r (List.mem_of_getElem? e2)))
theorem small_of {ls : Str} {F : List Rf} (ok : FOkf ls F) (h : F.length ≤ 100) : ∀ r ∈ F, Small r := fun r hr i hi => by
  obtain ⟨k, hk⟩ := List.getElem?_of_mem hr
  have h1 := (ok k r hk).1 i hi
  have h2 := (List.getElem?_eq_some_iff.mp hk).1
  have : (10 : Nat) ^ 4 = 10000 := by decide
  omega
theorem fine_form {ls : Str} {F : List Rf} (ok : FOkf ls F) (sm : ∀ r ∈ F, Small r) : Fine ls (F.map pieceOf) := fun k zk e => by
  rw [List.getElem?_map] at e
  cases e2 : F[k]? with
  | none => rw [e2] at e; cases e
  | some r =>
    rw [e2] at e
    have e := (Option.some.inj e).symm
    subst e
    unfold badAt
    rw [read_piece (sm r (List.mem_of_getElem? e2))]
    show (!okRowf ls k r.vs) = false
    rw [okRow_vsf (ok k r e2)]
    rfl
theorem size_words {w : Str} {n : Nat} (h : sizeWf w = some n) : n ≤ 2 ∧ w.length ≤ 7 ∧ PyData.strOk w = true := by
  unfold sizeWf at h
  repeat' (split at h)
  all_goals first | (cases h; done) | (rename_i e; subst e; rw [← Option.some.inj h]; exact ⟨by decide, by decide +kernel, by decide +kernel⟩) | skip
def SmallV (x : V) : Prop := (∃ y : Str, x = .str y ∧ y.length ≤ 7 ∧ PyData.strOk y = true) ∨ ∃ i : Nat, x = nV i ∧ i < 10 ^ 4
theorem fine_row {ls z : Str} {k : Nat} (h : badAt ls k z = false) (hk : k ≤ 4000) (hc : ∀ c ∈ z.cps.toList, c < 0x110000) : ∃ xs, readW z = some xs ∧ xs.length ≤ 3 ∧ ∀ x ∈ xs, SmallV x := by
  have h4 : (10 : Nat) ^ 4 = 10000 := by decide
  unfold badAt at h
  cases e : readW z with
  | none => rw [e] at h; cases h
  | some xs =>
    rw [e] at h
    have ok : okRowf ls k xs = true := by
      have h : (!okRowf ls k xs) = false := h
      rwa [Bool.not_eq_false'] at h
    refine ⟨xs, rfl, ?_⟩
    unfold readW at e
    by_cases h1 : z.length = 1
    · rw [if_pos h1] at e
      obtain rfl := Option.some.inj e
      refine ⟨by simp, fun x hx => ?_⟩
      simp only [List.mem_cons, List.not_mem_nil, or_false] at hx
      rcases hx with rfl | rfl
      · exact .inl ⟨_, rfl, by decide, by decide +kernel⟩
      · exact .inl ⟨_, rfl, by omega, strOk_of hc⟩
    · rw [if_neg h1] at e
      cases es : Txt.split z " " with
      | nil => rw [es] at e; cases e
      | cons w rest =>
        rw [es] at e
        have e : (if w = "letter" ∨ rest.all figB = false then none else some (V.str w :: rest.map fun y => nV (numOf y))) = some xs := e
        by_cases hq : w = "letter" ∨ rest.all figB = false
        · rw [if_pos hq] at e; cases e
        · rw [if_neg hq] at e
          obtain rfl := Option.some.inj e
          have hw : ¬ w = "letter" := fun c => hq (.inl c)
          rw [okRow_notf hw] at ok
          cases en : sizeWf w with
          | none => rw [en] at ok; cases ok
          | some n =>
            rw [en] at ok
            have ok : (decide ((rest.map fun y => nV (numOf y)).length = n) && (rest.map fun y => nV (numOf y)).all (numB k)) = true := ok
            rw [Bool.and_eq_true, decide_eq_true_eq, List.length_map] at ok
            obtain ⟨s1, s2, s3⟩ := size_words en
            refine ⟨by rw [List.length_cons, List.length_map]; omega, fun x hx => ?_⟩
            rcases List.mem_cons.mp hx with rfl | hx
            · exact .inl ⟨_, rfl, s2, s3⟩
            · have hb := List.all_eq_true.mp ok.2 x hx
              obtain ⟨y, _, rfl⟩ := List.mem_map.mp hx
              have hb : decide (0 ≤ ((numOf y : Nat) : Int) ∧ ((numOf y : Nat) : Int) ≤ (k : Int) - 1) = true := hb
              have hb := of_decide_eq_true hb
              exact .inr ⟨_, rfl, by omega⟩
def rowD (z : Str) : PyData := .tuple (((readW z).getD []).map flD)
def rowsD (zs : List Str) : PyData := .tuple (zs.map rowD)
structure FitD (m : Nat) (d : PyData) : Prop where
  can : d.canLay0 = true
  short : d.intsShort 13 = true
  show_ : d.showable = true
  nd : d.hasDict = false
  wt : d.weight ≤ m
theorem fitd_all {m : Nat} : ∀ {ds : List PyData}, (∀ d ∈ ds, FitD m d) → PyData.canLayAll0 ds = true ∧ PyData.intsShortAll 13 ds = true ∧ PyData.showableAll ds = true ∧ PyData.hasDictAll ds = false ∧ PyData.weightAll ds ≤ ds.length * (m + 1)
  | [], _ => ⟨rfl, rfl, rfl, rfl, by simp [PyData.weightAll]⟩
  | k :: ks, h => by
    obtain ⟨a1, a2, a3, a4, a5⟩ := h k List.mem_cons_self
    obtain ⟨b1, b2, b3, b4, b5⟩ := fitd_all (ds := ks) fun x hx => h x (List.mem_cons_of_mem _ hx)
    refine ⟨?_, ?_, ?_, ?_, ?_⟩
    · rw [PyData.canLayAll0, a1, b1]; rfl
    · rw [PyData.intsShortAll, a2, b2]; rfl
    · rw [PyData.showableAll, a3, b3]; rfl
    · rw [PyData.hasDictAll, a4, b4]; rfl
    · rw [PyData.weightAll, List.length_cons, Nat.succ_mul]
      omega
theorem fitd_tup {m l : Nat} {ds : List PyData} (h : ∀ d ∈ ds, FitD m d) (hl : ds.length ≤ l) : FitD (l * (m + 1)) (.tuple ds) := by
  obtain ⟨h1, h2, h3, h4, h5⟩ := fitd_all h
  refine ⟨h1, h2, h3, h4, ?_⟩
  show PyData.weightAll _ ≤ _
  exact Nat.le_trans h5 (Nat.mul_le_mul_right _ hl)
theorem fitd_v {x : V} (h : SmallV x) : FitD 14 (flD x) := by
  rcases h with ⟨y, rfl, h1, h2⟩ | ⟨i, rfl, hi⟩
  · refine ⟨h2, rfl, rfl, rfl, ?_⟩
    show PyData.weight (.str y) ≤ 14
    have e2 : PyData.weight (.str y) = y.length := by rw [PyData.weight]; rfl
    rw [e2]
    omega
  · have h4 : (10 : Nat) ^ 4 = 10000 := by decide
    have en : ((i : Nat) : Int).natAbs = i := rfl
    have lg : i.log2 < 14 := by
      by_cases h0 : i = 0
      · subst h0; decide
      · exact (Nat.log2_lt h0).mpr (by omega)
    refine ⟨rfl, ?_, ?_, rfl, ?_⟩
    · show decide ((PyData.shown (.int ((i : Nat) : Int))).length ≤ 13) = true
      have e : (PyData.shown (.int ((i : Nat) : Int))) = numS i := rfl
      rw [e]
      have := (numS_len hi).1
      exact decide_eq_true (by omega)
    · show decide (((i : Nat) : Int).natAbs.log2 < 1920) = true
      rw [en]
      exact decide_eq_true (by omega)
    · show PyData.weight (.int ((i : Nat) : Int)) ≤ 14
      rw [PyData.weight, en]
      split
      · omega
      · omega
theorem smallV_flat {x : V} (h : SmallV x) : Flat x := by
  rcases h with ⟨y, rfl, _⟩ | ⟨i, rfl, _⟩ <;> exact True.intro
theorem depthAll_le {m : Nat} : ∀ {ds : List PyData}, (∀ d ∈ ds, d.depth ≤ m) → PyData.depthAll ds ≤ m
  | [], _ => Nat.zero_le _
  | d :: ds, h => by
    have h1 := h d List.mem_cons_self
    have h2 := depthAll_le (ds := ds) fun x hx => h x (List.mem_cons_of_mem _ hx)
    rw [PyData.depthAll]
    omega
theorem rows_good {ls : Str} {zs : List Str} (hf : Fine ls zs) (hl : zs.length ≤ 4000) (hc : ∀ z ∈ zs, ∀ c ∈ z.cps.toList, c < 0x110000) : GoodD (rowsD zs) ∧ (rowsD zs).depth ≤ 2 := by
  have row : ∀ d ∈ zs.map rowD, FitD 45 d ∧ d.depth ≤ 1 := fun d hd => by
    obtain ⟨z, hz, rfl⟩ := List.mem_map.mp hd
    obtain ⟨k, hk⟩ := List.getElem?_of_mem hz
    have := (List.getElem?_eq_some_iff.mp hk).1
    obtain ⟨xs, e, h1, h2⟩ := fine_row (hf k z hk) (by omega) (hc z hz)
    have er : rowD z = .tuple (xs.map flD) := by unfold rowD; rw [e]; rfl
    rw [er]
    refine ⟨fitd_tup (m := 14) (l := 3) (fun d hd => ?_) (by rw [List.length_map]; exact h1), ?_⟩
    · obtain ⟨x, hx, rfl⟩ := List.mem_map.mp hd
      exact fitd_v (h2 x hx)
    · rw [PyData.depth]
      have : PyData.depthAll (xs.map flD) ≤ 0 := depthAll_le fun d hd => by
        obtain ⟨x, hx, rfl⟩ := List.mem_map.mp hd
        rcases h2 x hx with ⟨y, rfl, _⟩ | ⟨i, rfl, _⟩ <;> exact Nat.le_refl 0
      omega
  have f := fitd_tup (m := 45) (l := 4000) (fun d hd => (row d hd).1) (by rw [List.length_map]; exact hl)
  have dp : (rowsD zs).depth ≤ 2 := by
    unfold rowsD
    rw [PyData.depth]
    have := depthAll_le (m := 1) fun d hd => (row d hd).2
    omega
  refine ⟨⟨?_, by omega, f.short, f.show_, f.nd⟩, dp⟩
  have wt : (rowsD zs).weight ≤ 2 ^ 20 := Nat.le_trans f.wt (by decide)
  have hcn : (rowsD zs).canLay0 = true := f.can
  show (PyData.canLay0 _ && decide (PyData.depth _ ≤ 64) && decide (PyData.weight _ ≤ 2 ^ 20)) = true
  rw [hcn, decide_eq_true wt, decide_eq_true (show (rowsD zs).depth ≤ 64 by omega)]
  rfl
theorem dp_zip {K : PySem.W.Frag} {H : Hp} : ∀ {xs : List V} {ds : List PyData}, xs.length = ds.length → (∀ (k : Nat) (x : V) (d : PyData), xs[k]? = some x → ds[k]? = some d → Dp K H x d) → DpAll K H xs ds
  | [], [], _, _ => .nil
  | x :: xs, d :: ds, hl, h => .cons (h 0 x d rfl rfl) (dp_zip (Nat.succ.inj hl) fun k y e h1 h2 => h (k + 1) y e h1 h2)
  | [], _ :: _, hl, _ => by cases hl
  | _ :: _, [], hl, _ => by cases hl
theorem read_dp {K : PySem.W.Frag} {H : Hp} {ls : Str} {v : V} {zs : List Str} (h : ReadAt H v zs) (hf : Fine ls zs) (hl : zs.length ≤ 4000) (hc : ∀ z ∈ zs, ∀ c ∈ z.cps.toList, c < 0x110000) : Dp K H v (rowsD zs) := by
  obtain ⟨p, as, rfl, hp, ha, hr⟩ := h
  refine .tup (.inl (.inl hp)) (dp_zip (by rw [List.length_map, List.length_map, ha]) fun k x d h1 h2 => ?_)
  rw [List.getElem?_map] at h1 h2
  cases e1 : as[k]? with
  | none => rw [e1] at h1; cases h1
  | some a =>
    cases e2 : zs[k]? with
    | none => rw [e2] at h2; cases h2
    | some z =>
      rw [e1] at h1
      rw [e2] at h2
      have h1 := (Option.some.inj h1).symm
      have h2 := (Option.some.inj h2).symm
      subst h1 h2
      have := (List.getElem?_eq_some_iff.mp e2).1
      obtain ⟨xs, e, h3, h4⟩ := fine_row (hf k z e2) (by omega) (hc z (List.mem_of_getElem? e2))
      have er : rowD z = .tuple (xs.map flD) := by unfold rowD; rw [e]; rfl
      rw [er]
      exact .tup (.inl (.inl (hr k a z xs e1 e2 e))) (fl_dp fun x hx => smallV_flat (h4 x hx))
end SWL
set_option Elab.async false
set_option linter.all false
set_option maxRecDepth 100000
set_option maxHeartbeats 8000000
namespace SWL
open PySem PySem.Spec PyProof.Rows L2 LamX
def qLam : Str := (envOfC "law" (defScope sLaw) 0 0 .none).qual ++ "<lambda>"
/-- the draws and the table of the lambdas' code -/
structure LS (H : Hp) (a g c : Addr) (cs : List Int) (n : Nat) (Pt : Addr) : Prop where
  sat : SAt H a g c cs n
  tab : Tabs [(Pt, qLam)] H
theorem LS.grows {H H' : Hp} {a g c Pt : Addr} {cs : List Int} {n : Nat} (s : LS H a g c cs n Pt) (x : Grows H H') : LS H' a g c cs n Pt := ⟨s.sat.grows x, s.tab.ext x⟩
theorem LS.mono {H : Hp} {a g c Pt : Addr} {cs : List Int} {n m : Nat} (s : LS H a g c cs n Pt) (h : n ≤ m) : LS H a g c cs m Pt := ⟨s.sat.mono h, s.tab⟩
theorem LS.but {H H' : Hp} {a g c Pt : Addr} {cs : List Int} {n m : Nat} (s : LS H a g c cs n Pt) (x : But H H' a g) (s' : SAt H' a g c cs m) : LS H' a g c cs m Pt := by
  refine ⟨s', fun p hp => ?_⟩
  obtain ⟨gs, r, t, h1, h2, _⟩ := s.sat.ex
  obtain ⟨ps, e1, e2, e3⟩ := s.tab p hp
  refine ⟨ps, x _ _ e1 (ne_of e1 h1 (by intro z; cases z)) (ne_of e1 h2 (by intro z; cases z)), e2, fun pos cv hc => ?_⟩
  obtain ⟨d, f1, f2⟩ := e3 pos cv hc
  exact ⟨d, f1, x _ _ f2 (ne_of f2 h1 (by unfold CodeO; intro z; cases z)) (ne_of f2 h2 (by unfold CodeO; intro z; cases z))⟩
theorem LS.ext {H H' : Hp} {a g c Pt : Addr} {cs : List Int} {n : Nat} (s : LS H a g c cs n Pt) (x : ExtN H H') (t : Tabs [(Pt, qLam)] H') : LS H' a g c cs n Pt := by
  obtain ⟨gs, r, t', h1, h2, h3, h4⟩ := s.sat.ex
  exact ⟨⟨gs, r, t', x _ _ h1 (by intro ps z; cases z), x _ _ h2 (by intro ps z; cases z), x _ _ h3 (by intro ps z; cases z), h4⟩, t⟩
theorem LS.offA {H : Hp} {a g c Pt : Addr} {cs : List Int} {n : Nat} (s : LS H a g c cs n Pt) {l : Addr} {xs : List V} (h : H l = some (.lst xs)) : l ≠ a := by
  obtain ⟨gs, r, t, h1, _⟩ := s.sat.ex
  exact ne_of h h1 (by intro z; cases z)
theorem LS.offA' {H : Hp} {a g c Pt : Addr} {cs : List Int} {n : Nat} (s : LS H a g c cs n Pt) {l : Addr} (h : H l = none) : l ≠ a := by
  obtain ⟨gs, r, t, h1, h2, _⟩ := s.sat.ex
  exact (ne_of_none h1 h).symm
theorem LS.offG {H : Hp} {a g c Pt : Addr} {cs : List Int} {n : Nat} (s : LS H a g c cs n Pt) {l : Addr} (h : H l = none) : l ≠ g := by
  obtain ⟨gs, r, t, h1, h2, _⟩ := s.sat.ex
  exact (ne_of_none h2 h).symm
theorem LS.offC {H : Hp} {a g c Pt : Addr} {cs : List Int} {n : Nat} (s : LS H a g c cs n Pt) {l : Addr} (h : H l = none) : l ≠ c := by
  obtain ⟨gs, r, t, h1, h2, h3, _⟩ := s.sat.ex
  exact (ne_of_none h3 h).symm
theorem LS.put {H : Hp} {a g c Pt D : Addr} {cs : List Int} {n : Nat} {xs : List V} (s : LS H a g c cs n Pt) (h : H D = some (.lst xs)) (dG : D ≠ g) (dC : D ≠ c) (ys : List V) : LS (upd H D (.lst ys)) a g c cs n Pt := by
  have dA := s.offA h
  obtain ⟨gs, r, t, h1, h2, h3, h4⟩ := s.sat.ex
  refine ⟨⟨gs, r, t, by rw [upd_ne dA.symm]; exact h1, by rw [upd_ne dG.symm]; exact h2, by rw [upd_ne dC.symm]; exact h3, h4⟩, fun p hp => ?_⟩
  obtain ⟨ps, e1, e2, e3⟩ := s.tab p hp
  refine ⟨ps, by rw [upd_ne (ne_of e1 h (by intro z; cases z))]; exact e1, e2, fun pos cv hc => ?_⟩
  obtain ⟨d, f1, f2⟩ := e3 pos cv hc
  exact ⟨d, f1, by rw [upd_ne (ne_of f2 h (by unfold CodeO; intro z; cases z))]; exact f2⟩
theorem tyx_ext {K : PySem.W.Frag} {H H' : Hp} (g : ExtN H H') {x : V} {t : Value} (h : TyX K H x t) : TyX K H' x t := by
  have no : ∀ {o : HO}, (∀ ps, o ≠ .tbl ps) → ∀ {b}, H b = some o → H' b = some o := fun n b e => g b _ e n
  cases h with
  | base b =>
    cases b with
    | non => exact .base .non
    | bl y => exact .base (.bl y)
    | int i => exact .base (.int i)
    | str z => exact .base (.str z)
    | flt z => exact .base (.flt z)
    | lst e => exact .base (.lst (no (by intro ps z; cases z) e))
    | frz e => exact .base (.frz (no (by intro ps z; cases z) e))
    | tup e => exact .base (.tup (no (by intro ps z; cases z) e))
    | dK e => exact .base (.dK (no (by intro ps z; cases z) e))
    | dT e => exact .base (.dT (no (by intro ps z; cases z) e))
    | ins e cl ha hn ht hm => exact .base (.ins (no (by intro ps z; cases z) e) cl ha hn ht hm)
  | byt b => exact .byt b
  | set e => exact .set (no (by intro ps z; cases z) e)
  | kList e c => exact .kList e c
  | kTuple e c => exact .kTuple e c
  | kDict e c => exact .kDict e c
  | fTuple e => exact .fTuple (no (by intro ps z; cases z) e)
  | fDict e => exact .fDict (no (by intro ps z; cases z) e)
theorem Grows.extN {H H' : Hp} (g : Grows H H') : ExtN H H' := fun b o h _ => g b o h
theorem ExtN.tr {H H1 H2 : Hp} (a : ExtN H H1) (b : ExtN H1 H2) : ExtN H H2 := fun c o h n => b c o (a c o h n) n
def spLaw (K : PySem.W.Frag) (Pt : Addr) : Sp := fun vs H Q _ => ∃ (a : Addr) (ns : List Int), vs = [.ref a] ∧ SqL K H a (ns.map V.int) ∧ ns.length ≤ 63 ∧ H Pt = some (.tbl #[]) ∧ ∀ H', Q (.bl true) H'
theorem app_len (a b : Str) : (a ++ b).length = a.length + b.length := by
  show (a.cps ++ b.cps).size = _
  rw [Array.size_append]
  rfl
theorem app_cps (a b : Str) : (a ++ b).cps.toList = a.cps.toList ++ b.cps.toList := by
  show (a.cps ++ b.cps).toList = _
  simp
abbrev NL : List Str := ["script", "lap", "formula", "text", "at", "sign", "bent", "due", "row", "long", "letters", "state"]
theorem scLaw : FnScope NL ["script"] (defScope sLaw) := ⟨rfl, rfl, rfl, by decide +kernel, rfl, by decide +kernel, by decide +kernel⟩
/-- what the law calls -/
structure Callees (P : Program) (w : World) (K : PySem.W.Frag) (mg : Str → Option Value) (base : Heap) (c : Cs7) (CT : Addr) : Prop where
  begun : ∃ f fd, Def mg K "_law_begun" f fd ["script"] ∧ FnOk P w K mg base CX0 1 f fd ["script"] (spBegun K)
  draw : ∃ f fd, Def mg K "_law_draw" f fd ["state", "room"] ∧ FnOk P w K mg base CX0 2 f fd ["state", "room"] spDraw
  pick : ∃ f fd, Def mg K "_law_pick" f fd ["state", "some"] ∧ FnOk P w K mg base CX0 3 f fd ["state", "some"] spPick
  someL : ∃ f fd, Def mg K "_law_some_letters" f fd ["state"] ∧ FnOk P w K mg base CX0 4 f fd ["state"] spSomeL
  someFull : ∃ f fd, Def mg K "_law_some_full" f fd ["state", "letters", "many", "words"] ∧ FnOk P w K mg base CX0 4 f fd ["state", "letters", "many", "words"] spSomeFull
  textOf : ∃ f fd, Def mg K "_law_text_of" f fd ["formula"] ∧ FnOk P w K mg base CX0 1 f fd ["formula"] spTextOf
  lawRead : ∃ f fd, Def mg K "_law_read" f fd ["letters", "text"] ∧ FnOk P w K mg base CX0 1 f fd ["letters", "text"] spLawRead
  refused : ∃ f fd, Def mg K "_law_refused" f fd ["letters", "text"] ∧ FnOk P w K mg base CX0 7 f fd ["letters", "text"] (spRefused K)
  is : ∃ f fd, Def mg K "_law_is" f fd ["found", "due"] ∧ FnG P w K mg base 5 f fd ["found", "due"] (spIsV K 3)
  ftext : ∃ f fd, Def mg K "formula_text" f fd ["letters", "formula"] ∧ KBinds K fd ["letters", "formula"] ["formula", "letters"] (fun us ws => us ++ ws.reverse) (fun us ws => us ++ ws.reverse) ∧ FnOk P w K mg base (L2.CX P w) 6 f fd ["letters", "formula"] (spFText K c.N c.F)
  readF : ∃ f fd, Def mg K "read_formula" f fd ["letters", "text"] ∧ KBinds K fd ["letters", "text"] ["text", "letters"] (fun us ws => us ++ ws.reverse) (fun us ws => us ++ ws.reverse) ∧ FnOk P w K mg base (L2.CX P w) 6 f fd ["letters", "text"] (spReadF K c.N CT)
/-- _law_word, as it stands -/
structure WordK (K : PySem.W.Frag) (mg : Str → Option Value) (fC : Addr) : Prop where
  g : mg "_law_word" = some (.ref fC)
  k : PySem.W.keepIn K (.ref fC) = true
  ex : ∃ (oc kV doc pm cdv ct : Value) (an od : Option Addr) (osl : Array (Option Value)), K.lookup fC = some ⟨oc, od, .func (PySem.W.fnOf "_law_word" "_law_word" (defArgs sWord) (defBody sWord) (defScope sWord) .none kV doc pm an cdv ct), osl⟩ ∧ PySem.W.codeIn K cdv "_law_word" = true ∧
    L2.Binds K (PySem.W.fnOf "_law_word" "_law_word" (defArgs sWord) (defBody sWord) (defScope sWord) .none kV doc pm an cdv ct) ["action"] []
/-- an error class as isinstance and except see it, and the word for it -/
structure SeenW (K : PySem.W.Frag) (C CS : Addr) (c : Cs7) (z : Str) : Prop where
  exm : PySem.W.exmOne K (.ref C) (.ref CS) = some true
  ec : ExcC K C
  wd : ∀ R : Str → Prop, R z → WordIs K C R c.list
theorem go_word {K : PySem.W.Frag} {Pt C CS : Addr} {c : Cs7} {z : Str} {t : XK → TE} {σ : L2.St} {H : Hp} {Q : VK} (R : Hp → Prop) (s : SeenW K C CS c z) (tab : Tabs [(Pt, qLam)] H)
    (h : ∀ H1 E Q', ExtN H H1 → Tabs [(Pt, qLam)] H1 → (∀ H2, R H2 → E (.ref C) none H2) → t E σ H1 Q') (q : ∀ H2 a, R H2 → H2 a = none → Q (.str z) (upd H2 a (.ext (Kept (.ref C) none a)))) :
    tLam [(Pt, qLam)] (TWord K CS c) t σ H Q := by
  refine ⟨tab, fun H1 e1 t1 Qf => ?_⟩
  refine h H1 _ _ e1 t1 fun H2 r2 => ⟨s.exm, C, rfl, rfl, s.ec, s.wd _ fun a na => q H2 a r2 na⟩
theorem ThAt.ext {K : PySem.W.Frag} {H H' : Hp} (g : ExtN H H') {v : V} {th : Th} (h : ThAt K H v th) : ThAt K H' v th := by
  have el : ∀ {x : V} {e : El}, ElAt K H x e → ElAt K H' x e := fun {x e} hx => by
    cases e with
    | row xs => obtain ⟨a, h1, h2⟩ := hx; exact ⟨a, h1, g _ _ h2 (by intro ps z; cases z)⟩
    | no => obtain ⟨t, h1, h2⟩ := hx; exact ⟨t, tyx_ext g h1, h2⟩
  cases th with
  | tup es => obtain ⟨p, vs, h1, h2, h3, h4⟩ := h; exact ⟨p, vs, h1, g _ _ h2 (by intro ps z; cases z), h3, fun k x e hx he => el (h4 k x e hx he)⟩
  | no => obtain ⟨t, h1, h2⟩ := h; exact ⟨t, tyx_ext g h1, h2⟩
theorem FormAtf.ext {H H' : Hp} (g : ExtN H H') {v : V} {F : List Rf} (h : FormAtf H v F) : FormAtf H' v F := by
  obtain ⟨p, as, h1, h2, h3, h4⟩ := h
  exact ⟨p, as, h1, g _ _ h2 (by intro ps z; cases z), h3, fun k a r ha hr => g _ _ (h4 k a r ha hr) (by intro ps z; cases z)⟩
theorem good_ints : ∀ j : Fin 200, PyData.layable0 (.int ((j.1 : Nat) : Int)) = true ∧ PyData.depth (.int ((j.1 : Nat) : Int)) ≤ 50 ∧ PyData.intsShort 13 (.int ((j.1 : Nat) : Int)) = true ∧ PyData.showable (.int ((j.1 : Nat) : Int)) = true ∧ PyData.hasDict (.int ((j.1 : Nat) : Int)) = false := by decide +kernel
theorem good_nat {j : Nat} (h : j < 200) : GoodD (.int ((j : Nat) : Int)) := by
  obtain ⟨h1, h2, h3, h4, h5⟩ := good_ints ⟨j, h⟩
  exact ⟨h1, h2, h3, h4, h5⟩
end SWL
set_option Elab.async false
set_option linter.all false
set_option maxRecDepth 100000
set_option maxHeartbeats 8000000
namespace SWL
open PySem PySem.Spec PyProof.Rows L2 LamX TL
/-! what the law's texts are -/
structure Bent (z : Str) : Prop where
  len : z.length ≤ 1000
  ch : ∀ c ∈ z.cps.toList, c < 0x110000
theorem Bent.parts {z : Str} (h : Bent z) : (∀ p ∈ Txt.split z "; ", p.length ≤ 1000) ∧ (Txt.split z "; ").length ≤ 1001 ∧ ∀ p ∈ Txt.split z "; ", ∀ c ∈ p.cps.toList, c < 0x110000 := by
  obtain ⟨s1, s2, s3⟩ := split_all (x := z) (y := "; ") (by decide +kernel) (by decide +kernel)
  have := h.len
  refine ⟨fun p hp => ?_, by omega, fun p hp c hc => h.ch c ((s3 p hp).2 c hc)⟩
  have := (s3 p hp).1
  omega
theorem Bent.app {y z : Str} (h1 : ∀ c ∈ y.cps.toList, c < 0x110000) (h2 : ∀ c ∈ z.cps.toList, c < 0x110000) (hl : y.length + z.length ≤ 1000) : Bent (y ++ z) := by
  refine ⟨by rw [app_len]; exact hl, fun c hc => ?_⟩
  rw [app_cps] at hc
  rcases List.mem_append.mp hc with h | h
  · exact h1 c h
  · exact h2 c h
theorem cut_mem {z : Str} {lo hi : Option Int} {c : Nat} (h : c ∈ (cutS z lo hi).cps.toList) : c ∈ z.cps.toList := by
  unfold cutS at h
  have h : c ∈ (z.cps.toList.drop (HT.sIx z.length 0 lo)).take (HT.sIx z.length z.length hi - HT.sIx z.length 0 lo) := h
  exact List.mem_of_mem_drop (List.mem_of_mem_take h)
theorem first_bad (ls : Str) (zs : List Str) : Fine ls zs ∨ ∃ (k : Nat) (zk : Str), zs[k]? = some zk ∧ badAt ls k zk = true ∧ ∀ (j : Nat) (zj : Str), j < k → zs[j]? = some zj → badAt ls j zj = false := by
  have gen : ∀ n, (∀ (j : Nat) (zj : Str), j < n → zs[j]? = some zj → badAt ls j zj = false) ∨ ∃ (k : Nat) (zk : Str), zs[k]? = some zk ∧ badAt ls k zk = true ∧ ∀ (j : Nat) (zj : Str), j < k → zs[j]? = some zj → badAt ls j zj = false := by
    intro n
    induction n with
    | zero => exact .inl fun j zj h => absurd h (Nat.not_lt_zero j)
    | succ n ih =>
      rcases ih with ih | ih
      · cases e : zs[n]? with
        | none =>
          refine .inl fun j zj h hj => ?_
          by_cases c : j = n
          · subst c; rw [e] at hj; cases hj
          · exact ih j zj (by omega) hj
        | some zn =>
          cases b : badAt ls n zn with
          | true => exact .inr ⟨n, zn, e, b, ih⟩
          | false =>
            refine .inl fun j zj h hj => ?_
            by_cases c : j = n
            · subst c; rw [e] at hj; rw [← Option.some.inj hj]; exact b
            · exact ih j zj (by omega) hj
      · exact .inr ih
  rcases gen zs.length with h | h
  · exact .inl fun k zk hk => h k zk (List.getElem?_eq_some_iff.mp hk).1 hk
  · exact .inr h
theorem first_one {ls : Str} {zs : List Str} {k l : Nat} {zk zl : Str} (h1 : zs[k]? = some zk) (h2 : badAt ls k zk = true) (h3 : ∀ (j : Nat) (zj : Str), j < k → zs[j]? = some zj → badAt ls j zj = false)
    (g1 : zs[l]? = some zl) (g2 : badAt ls l zl = true) (g3 : ∀ (j : Nat) (zj : Str), j < l → zs[j]? = some zj → badAt ls j zj = false) : l = k := by
  rcases Nat.lt_trichotomy l k with h | h | h
  · have := h3 l zl h g1; rw [g2] at this; cases this
  · exact h
  · have := g3 k zk h h1; rw [h2] at this; cases this
theorem not_fine {ls : Str} {zs : List Str} {k : Nat} {zk : Str} (h1 : zs[k]? = some zk) (h2 : badAt ls k zk = true) (h : Fine ls zs) : False := by
  have := h k zk h1
  rw [h2] at this
  cases this
theorem word_ch (r : Rf) : ∀ c ∈ r.word.cps.toList, c < 128 := by
  cases r with
  | tru => exact (by decide +kernel : ∀ c ∈ ("true" : Str).cps.toList, c < 128)
  | let_ c => exact (by decide +kernel : ∀ c ∈ ("letter" : Str).cps.toList, c < 128)
  | nt i => exact (by decide +kernel : ∀ c ∈ ("not" : Str).cps.toList, c < 128)
  | an i j => exact (by decide +kernel : ∀ c ∈ ("and" : Str).cps.toList, c < 128)
  | or_ i j => exact (by decide +kernel : ∀ c ∈ ("or" : Str).cps.toList, c < 128)
  | nx i => exact (by decide +kernel : ∀ c ∈ ("next" : Str).cps.toList, c < 128)
  | la i => exact (by decide +kernel : ∀ c ∈ ("later" : Str).cps.toList, c < 128)
  | un i j => exact (by decide +kernel : ∀ c ∈ ("until" : Str).cps.toList, c < 128)
  | be i => exact (by decide +kernel : ∀ c ∈ ("before" : Str).cps.toList, c < 128)
  | ea i => exact (by decide +kernel : ∀ c ∈ ("earlier" : Str).cps.toList, c < 128)
  | si i j => exact (by decide +kernel : ∀ c ∈ ("since" : Str).cps.toList, c < 128)
theorem words_ch (r : Rf) : ∀ z ∈ r.words, ∀ c ∈ z.cps.toList, c < 128 := fun z hz c hc => by
  unfold Rf.words at hz
  rcases List.mem_cons.mp hz with rfl | hz
  · exact word_ch r c hc
  · obtain ⟨i, _, rfl⟩ := List.mem_map.mp hz
    have := numS_digs i c hc
    omega
theorem piece_ch {ls : Str} {k : Nat} {r : Rf} (h : r.ok ls k) (hc : ∀ c ∈ ls.cps.toList, c < 128) : ∀ c ∈ (pieceOf r).cps.toList, c < 128 := fun c hm => by
  by_cases hw : ∃ d, r = .let_ d
  · obtain ⟨d, rfl⟩ := hw
    have hm : c ∈ [d] := hm
    rw [List.mem_singleton.mp hm]
    exact hc d (h.2 d rfl)
  · have e : pieceOf r = Txt.join " " r.words := by
      cases r with
      | let_ d => exact absurd ⟨d, rfl⟩ hw
      | _ => rfl
    rw [e] at hm
    rcases join_mem hm with h | ⟨p, hp, hc⟩
    · have h : c ∈ [32] := h
      rw [List.mem_singleton.mp h]
      decide
    · exact words_ch r p hp c hc
theorem text_fit {ls : Str} {F : List Rf} (ok : FOkf ls F) (f2 : F.length ≤ 25) (hc : ∀ c ∈ ls.cps.toList, c < 128) : (textOf F).length ≤ F.length * 26 ∧ ∀ c ∈ (textOf F).cps.toList, c < 128 := by
  have sm := small_of ok (by omega)
  constructor
  · have h1 := join_len2 "; " (F.map pieceOf)
    have h2 := text_len (F := F) sm
    have h3 : (textOf F).length = (Txt.join "; " (F.map pieceOf)).length := rfl
    omega
  · intro c hm
    rcases join_mem hm with h | ⟨p, hp, h⟩
    · have h : c ∈ [59, 32] := h
      simp only [List.mem_cons, List.not_mem_nil, or_false] at h
      omega
    · obtain ⟨r, hr, rfl⟩ := List.mem_map.mp hp
      obtain ⟨k, hk⟩ := List.getElem?_of_mem hr
      exact piece_ch (ok k r hk) hc c h
theorem lots_semi : lettersL.all (fun z => !decide (59 ∈ z.cps.toList)) = true := by decide +kernel
theorem lot_semi {ls : Str} (h : ls ∈ lettersL) : 59 ∉ ls.cps.toList := by
  have := List.all_eq_true.mp lots_semi ls h
  simpa using this
theorem split_form {ls : Str} {F : List Rf} (ok : FOkf ls F) (f1 : 1 ≤ F.length) (hs : 59 ∉ ls.cps.toList) : Txt.split (textOf F) "; " = F.map pieceOf :=
  split_text (fun e => by rw [e] at f1; exact absurd f1 (by decide)) fun r hr c e => by
    obtain ⟨k, hk⟩ := List.getElem?_of_mem hr
    have := (ok k r hk).2 c e
    rintro rfl
    exact hs this
/-! the long formula -/
def letIn (ls : Str) : Rf → Bool
  | .let_ c => decide (c ∈ ls.cps.toList)
  | _ => true
def rowIn (ls : Str) (k : Nat) (r : Rf) : Bool := r.refs.all (fun i => decide (i < k)) && letIn ls r
theorem fok_of {ls : Str} {F : List Rf} (h : (List.range F.length).all (fun k => (F[k]?.map (rowIn ls k)).getD true) = true) : FOkf ls F := fun k r hr => by
  have := List.all_eq_true.mp h k (List.mem_range.mpr (List.getElem?_eq_some_iff.mp hr).1)
  rw [hr] at this
  have this : (r.refs.all (fun i => decide (i < k)) && letIn ls r) = true := this
  rw [Bool.and_eq_true] at this
  refine ⟨fun i hi => of_decide_eq_true (List.all_eq_true.mp this.1 i hi), fun c hc => ?_⟩
  have h2 := this.2
  rw [hc] at h2
  exact of_decide_eq_true h2
def longF : List Rf := .tru :: (List.range 60).map Rf.nt
theorem long_ok : FOkf "ab" longF := fok_of (by decide +kernel)
theorem long_len : longF.length = 61 := by decide +kernel
theorem long_text : (textOf longF).length ≤ 900 ∧ ∀ c ∈ (textOf longF).cps.toList, c < 0x110000 := by
  have h : decide ((textOf longF).length ≤ 900) && (textOf longF).cps.toList.all (fun c => decide (c < 0x110000)) = true := by decide +kernel
  rw [Bool.and_eq_true] at h
  exact ⟨of_decide_eq_true h.1, fun c hc => of_decide_eq_true (List.all_eq_true.mp (of_decide_eq_true h.2) c hc)⟩
end SWL
set_option Elab.async false
set_option linter.all false
set_option maxRecDepth 100000
set_option maxHeartbeats 16000000
namespace SWL
open PySem PySem.Spec PyProof.Rows L2 LamX TL
section
variable {P : Program} {w : World} {K : PySem.W.Frag} {mg : Str → Option Value} {base : Heap}
theorem ok_law {c7 : Cs7} {CT CS fC f c Pt : Addr} {oc0 kV0 doc0 pm0 ct0 : Value} {an0 od0 : Option Addr} {osl0 : Array (Option Value)} (lk : K.lookup f = some ⟨oc0, od0, .func (PySem.W.fnOf "law" "law" (defArgs sLaw) (defBody sLaw) (defScope sLaw) .none kV0 doc0 pm0 an0 (.ref c) ct0), osl0⟩)
    (hcd : PySem.W.codeIn K (.ref c) "law" = true) (B : Blt mg) (C : Callees P w K mg base c7 CT) (CK : WordK K mg fC) (TB : TabB base mg c Pt)
    (m7 : Mg7 mg c7) (mgS : mg "SwingError" = some (.ref CS)) (SN : SeenW K c7.N CS c7 "letters") (SF : SeenW K c7.F CS c7 "formula") :
    FnG P w K mg base 19 f (PySem.W.fnOf "law" "law" (defArgs sLaw) (defBody sLaw) (defScope sLaw) .none kV0 doc0 pm0 an0 (.ref c) ct0) ["script"] (spLaw K Pt) := by
  refine ⟨fun vs H Q E h => (by obtain ⟨a, ns, rfl, _⟩ := h; rfl), fun A outer s H args us vs Q E gA hr0 e0 hb r h => run_ofS (k := 18) lk hcd scLaw hr0 e0 hb r (by obtain ⟨a, ns, rfl, _⟩ := h; rfl) fun hr => ?_⟩
  obtain ⟨fB, fdB, DB, GB⟩ := C.begun
  obtain ⟨fD, fdD, DD, GD⟩ := C.draw
  obtain ⟨fQ, fdQ, DQ, GQ⟩ := C.pick
  obtain ⟨fL, fdL, DL, GL⟩ := C.someL
  obtain ⟨fU, fdU, DU, GU⟩ := C.someFull
  obtain ⟨fT, fdT, DT, GT⟩ := C.textOf
  obtain ⟨fV, fdV, DV, GV⟩ := C.lawRead
  obtain ⟨fX, fdX, DX, GX⟩ := C.refused
  obtain ⟨fI, fdI, DI, GI⟩ := C.is
  obtain ⟨fF, fdF, DF, KF, GF⟩ := C.ftext
  obtain ⟨fR, fdR, DR, KR, GR⟩ := C.readF
  obtain ⟨oc, kV, doc, pm, cdv, ct, an, od, osl, lkC, cdC, bC⟩ := CK.ex
  have u64 : (A.deeper (envOfC "law" (defScope sLaw) s.heap.objs.size f (.ref c))).units + 64 < cLine := by have := hr.un; omega
  have gX : (A.deeper (envOfC "law" (defScope sLaw) s.heap.objs.size f (.ref c))).guards = some [] := gA
  refine ⟨_, PSs.nox (pss_cons (ps_set (i := 11) scLaw.nd rfl (Or.inr rfl) (pe_call GB (hr.mono (by decide)) (by rfl) DB.g DB.k DB.b .nil pass0 (pa_cons (pv 0) pa_nil)))
      (pss_cons (ps_for PassesOwn.never rfl (pi_range1 (by rfl) B.range (pa_cons pe_int pa_nil)) (pg_name (i := 1) scLaw.nd rfl (Or.inl rfl)) (pss_cons (ps_set (i := 10) scLaw.nd rfl (Or.inr rfl) (pe_call GL (hr.mono (by decide)) (by rfl) DL.g DL.k DL.b .nil pass0 (pa_cons (pv 11) pa_nil)))
      (pss_cons (ps_set (i := 2) scLaw.nd rfl (Or.inl rfl) (pe_call GU (hr.mono (by decide)) (by rfl) DU.g DU.k DU.b .nil pass0 (pa_cons (pv 11) (pa_cons (pv 10) (pa_cons pe_int (pa_cons (pe_lst (pa_cons pe_str (pa_cons pe_str (pa_cons pe_str (pa_cons pe_str (pa_cons pe_str (pa_cons pe_str pa_nil))))))) pa_nil))))))
      (pss_cons (ps_set (i := 3) scLaw.nd rfl (Or.inl rfl) (pe_call GT (hr.mono (by decide)) (by rfl) DT.g DT.k DT.b .nil pass0 (pa_cons (pv 2) pa_nil)))
      (pss_cons (ps_if (PW.pt (pw_or (pt_not (pt_truth (pe_callG gX GI (hr.mono (by decide)) (by rfl) DI.g DI.k DI.b (pa_cons (pe_call GF (hr.mono (by decide)) (by rfl) DF.g DF.k DF.b .nil (passE0 rfl rfl) (pa_cons (pv 10) (pa_cons (pv 2) pa_nil))) (pa_cons (pv 3) pa_nil))) (by intro _; rfl))) (pw_or1 (pt_cmpR op_ne (pe_kwCall GF (hr.mono (by decide)) (by rfl) DF.g DF.k KF (passE0 rfl rfl) (pk_cons (pv 2) (pk_cons (pv 10) pk_nil))) (pv 3) (nomark _))))) (pss_one (ps_ret pe_bl)) pss_nil)
      (pss_cons (ps_if (PW.pt (pw_or (pt_not (pt_truth (pe_callG gX GI (hr.mono (by decide)) (by rfl) DI.g DI.k DI.b (pa_cons (pe_call GR (hr.mono (by decide)) (by rfl) DR.g DR.k DR.b .nil (passE0 rfl rfl) (pa_cons (pv 10) (pa_cons (pv 3) pa_nil))) (pa_cons (pv 2) pa_nil))) (by intro _; rfl))) (pw_or1 (pt_cmpR (op_neD u64) (pe_kwCall GR (hr.mono (by decide)) (by rfl) DR.g DR.k KR (passE0 rfl rfl) (pk_cons (pv 3) (pk_cons (pv 10) pk_nil))) (pv 2) (nomark _))))) (pss_one (ps_ret pe_bl)) pss_nil)
      (pss_cons (ps_set (i := 4) scLaw.nd rfl (Or.inl rfl) (pe_call GD (hr.mono (by decide)) (by rfl) DD.g DD.k DD.b .nil pass0 (pa_cons (pv 11) (pa_cons (pe_op op_add (pe_callB call_len_str (by rfl) B.len PySem.boot_len (pa_cons (pv 3) pa_nil)) pe_int) pa_nil))))
      (pss_cons (ps_set (i := 5) scLaw.nd rfl (Or.inl rfl) (pe_call GQ (hr.mono (by decide)) (by rfl) DQ.g DQ.k DQ.b .nil pass0 (pa_cons (pv 11) (pa_cons (pe_lst (pa_cons pe_str (pa_cons pe_str (pa_cons pe_str (pa_cons pe_str (pa_cons pe_str (pa_cons pe_str (pa_cons pe_str (pa_cons pe_str pa_nil))))))))) pa_nil))))
      (pss_one (ps_for PassesOwn.never rfl (pi_list (pe_lst (pa_cons (pe_op op_add_str (pe_op op_add_str (pe_slice sl_str (pv 3) po_none (po_some (pv 4))) (pv 5)) (pe_slice sl_str (pv 3) (po_some (pv 4)) po_none)) (pa_cons (pe_op op_add_str (pe_slice sl_str (pv 3) po_none (po_some (pv 4))) (pe_slice sl_str (pv 3) (po_some (pe_op op_add (pv 4) pe_int)) po_none)) (pa_cons (pe_op op_add_str (pv 3) (pe_call GQ (hr.mono (by decide)) (by rfl) DQ.g DQ.k DQ.b .nil pass0 (pa_cons (pv 11) (pa_cons (pe_lst (pa_cons pe_str (pa_cons pe_str (pa_cons pe_str (pa_cons pe_str (pa_cons pe_str (pa_cons pe_str (pa_cons pe_str pa_nil)))))))) pa_nil)))) pa_nil))))) (pg_name (i := 6) scLaw.nd rfl (Or.inl rfl)) (pss_cons (ps_asg (pe_call GV (hr.mono (by decide)) (by rfl) DV.g DV.k DV.b .nil pass0 (pa_cons (pv 10) (pa_cons (pv 6) pa_nil))) (pg_tup rfl (pgs_cons (pg_name (i := 7) scLaw.nd rfl (Or.inl rfl)) (pgs_cons (pg_name (i := 8) scLaw.nd rfl (Or.inl rfl)) pgs_nil))))
      (pss_one (ps_if (PW.pt (pw_or (PW.pt (pw_and (pt_cmpR op_isN (pv 7) pe_non (nomark _)) (pw_and1 (pt_cmpR op_ne (pe_call GX (hr.mono (by decide)) (by rfl) DX.g DX.k DX.b .nil pass0 (pa_cons (pv 10) (pa_cons (pv 6) pa_nil))) (pv 8) (nomark _))))) (pw_or1 (PW.pt (pw_and (pt_cmpR op_notN (pv 7) pe_non (nomark _)) (pw_and1 (pt_not (pt_truth (pe_callG gX GI (hr.mono (by decide)) (by rfl) DI.g DI.k DI.b (pa_cons (pe_call GR (hr.mono (by decide)) (by rfl) DR.g DR.k DR.b .nil (passE0 rfl rfl) (pa_cons (pv 10) (pa_cons (pv 6) pa_nil))) (pa_cons (pv 7) pa_nil))) (by intro _; rfl))))))))) (pss_one (ps_ret pe_bl)) pss_nil)))))))))))))
      (pss_cons (ps_if (PW.pt (pw_or (pt_not (pt_truth (pe_callG gX GI (hr.mono (by decide)) (by rfl) DI.g DI.k DI.b (pa_cons (pe_call GX (hr.mono (by decide)) (by rfl) DX.g DX.k DX.b .nil pass0 (pa_cons (pv 10) (pa_cons (pe_call GQ (hr.mono (by decide)) (by rfl) DQ.g DQ.k DQ.b .nil pass0 (pa_cons (pv 11) (pa_cons (pe_lst (pa_cons pe_non (pa_cons pe_int (pa_cons (pe_lst (pa_cons pe_str pa_nil)) (pa_cons (pe_tup (pa_cons pe_str pa_nil)) pa_nil))))) pa_nil))) pa_nil))) (pa_cons pe_int pa_nil))) (by intro _; rfl))) (pw_or1 (pt_not (pt_truth (pe_callG gX GI (hr.mono (by decide)) (by rfl) DI.g DI.k DI.b (pa_cons (pe_call GX (hr.mono (by decide)) (by rfl) DX.g DX.k DX.b .nil pass0 (pa_cons (pv 10) (pa_cons pe_str pa_nil))) (pa_cons pe_int pa_nil))) (by intro _; rfl)))))) (pss_one (ps_ret pe_bl)) pss_nil)
      (pss_cons (ps_set (i := 9) scLaw.nd rfl (Or.inl rfl) (pe_op op_catT (pe_tup (pa_cons (pe_tup (pa_cons pe_str pa_nil)) pa_nil)) (pe_callTy call_tuple_of (by rfl) B.tuple (by decide +kernel) (pa_cons (pe_lc (own := [("at", 4)]) (g := (gName 4)) (tt := tYes) (te := (tTup (tCons (tC (.str "not")) (tCons (tVar 4) tNil)))) rfl scLaw.nd (pi_range1 (by rfl) B.range (pa_cons pe_int pa_nil)) (blkOk_by (N := NL) (sc := defScope sLaw) (by decide +kernel)) (fun _ _ _ _ _ => (pg_name (i := 4) scLaw.nd rfl (Or.inl rfl))) (fun _ _ _ _ _ => pts_nil) (fun _ _ _ _ _ => (pe_tup (pa_cons pe_str (pa_cons (pv 4) pa_nil))))) pa_nil))))
      (pss_cons (ps_if (PW.pt (pw_or (pt_cmpR (op_neD u64) (pe_call GR (hr.mono (by decide)) (by rfl) DR.g DR.k DR.b .nil (passE0 rfl rfl) (pa_cons pe_str (pa_cons (pe_call GF (hr.mono (by decide)) (by rfl) DF.g DF.k DF.b .nil (passE0 rfl rfl) (pa_cons pe_str (pa_cons (pv 9) pa_nil))) pa_nil))) (pv 9) (nomark _)) (pw_or1 (pt_cmpR op_ne (pe_lamcall (k := 16) (T := [(Pt, qLam)]) (TT := TWord K CS c7) (Ng := ["action", "caught", "error"]) (t := fun E => tCall (spFText K c7.N c7.F) [] E (tCons (tVar 10) (tCons (tCall spPick [] E0 (tCons (tVar 11) (tCons (tLst (tCons (tC .non) (tCons (tTup tNil) (tCons (tC (.str "a")) tNil)))) tNil))) tNil))) (by rfl) CK.g CK.k lkC cdC bC scWord rfl (Or.inl rfl) (word_gives B.isi mgS m7) TB rfl List.mem_cons_self (fun p hp e => by cases List.mem_singleton.mp hp; rfl) hr (lamS_by (sc := defScope sLaw) (by decide +kernel)) rfl (fun _ _ _ _ _ => rfl) (fun A outer s H E f c' hr2 => pe_call GF (hr2.mono (by decide)) (by rfl) DF.g DF.k DF.b .nil (passes_call (takes_of rfl rfl rfl rfl) fun _ _ _ _ h => h) (pa_cons (pv 10) (pa_cons (pe_call GQ (hr2.mono (by decide)) (by rfl) DQ.g DQ.k DQ.b .nil pass0 (pa_cons (pv 11) (pa_cons (pe_lst (pa_cons pe_non (pa_cons (pe_tup pa_nil) (pa_cons pe_str pa_nil)))) pa_nil))) pa_nil)))) pe_str (nomark _))))) (pss_one (ps_ret pe_bl)) pss_nil)
      (pss_one (ps_ret (pe_cmpR op_eq (pe_lamcall (k := 16) (T := [(Pt, qLam)]) (TT := TWord K CS c7) (Ng := ["action", "caught", "error"]) (t := fun E => tCall (spReadF K c7.N CT) [] E (tCons (tC (.str "ba")) (tCons (tC .non) tNil))) (by rfl) CK.g CK.k lkC cdC bC scWord rfl (Or.inl rfl) (word_gives B.isi mgS m7) TB rfl List.mem_cons_self (fun p hp e => by cases List.mem_singleton.mp hp; rfl) hr (lamS_by (sc := defScope sLaw) (by decide +kernel)) rfl (fun _ _ _ _ _ => rfl) (fun A outer s H E f c' hr2 => pe_call GR (hr2.mono (by decide)) (by rfl) DR.g DR.k DR.b .nil (passes_call (takes_of rfl rfl rfl rfl) fun _ _ _ _ h => h) (pa_cons pe_str (pa_cons pe_non pa_nil)))) pe_str (nomark _))))))))), ?_⟩
  have sz : sizeLine = 16777216 := sizeLine_eq
  obtain ⟨a0, ns, rfl, hS, hn, hP, q⟩ := h
  refine ⟨_, rfl, a0, ns, rfl, hS, by omega, fun H1 a g cA cs g1 s1 na ng => ?_⟩
  have L1 : LS H1 a g cA cs 0 Pt := ⟨s1, fun p hp => by cases List.mem_singleton.mp hp; exact TabS.nil (g1 _ _ hP)⟩
  refine ⟨_, rfl, by decide, by decide, ?_⟩
  refine for_it walk_range (fun i σ H' => (∃ v1 v2 v3 v4 v5 v6 v7 v8 v9 v10 : Option V, (i = 0 ∨ ∃ ls : Str, ls ∈ lettersL ∧ v10 = some (.str ls)) ∧ σ = [some (.ref a0), v1, v2, v3, v4, v5, v6, v7, v8, v9, v10, some (.ref a)]) ∧ LS H' a g cA cs (2000 * i) Pt)
    ⟨⟨_, _, _, _, _, _, _, _, _, _, .inl rfl, rfl⟩, L1⟩ (fun _ _ _ _ _ => trivial) ?_ ?_
  · rintro i x σ H2x H2 hi ⟨⟨v1, v2, v3, v4, v5, v6, v7, v8, v9, v10, _, rfl⟩, L⟩ ⟨rfl, rfl⟩
    have hi6 : i < 6 := hi
    -- letters
    refine ⟨_, rfl, a, g, cA, cs, 2000 * i, rfl, L.sat, by omega, fun H3 ls hls s3 b3 => ?_⟩
    have lo := lot_of hls
    have L3 := L.but b3 s3
    have hl3 := lo.len
    have hl0 := lo.pos
    have hlsz : ls.length ≤ sizeLine := by omega
    have chars : ∀ c ∈ ls.cps.toList, c < 0x110000 := fun c hc => by have := lo.small c hc; omega
    clear s3 b3 L
    -- formula
    refine ⟨_, rfl, _, rfl, by show 6 ≤ sizeLine; omega, fun W nW => ?_⟩
    have gW : Grows H3 (upd H3 W (.lst [.str "next", .str "later", .str "until", .str "before", .str "earlier", .str "since"])) := Grows.new nW
    have kW : upd H3 W (.lst [.str "next", .str "later", .str "until", .str "before", .str "earlier", .str "since"]) W = some (.lst (turnW.map V.str)) := upd_same
    have Wg := L3.offG nW
    have L4 := L3.grows gW
    generalize upd H3 W (.lst [.str "next", .str "later", .str "until", .str "before", .str "earlier", .str "since"]) = H4 at gW kW L4 ⊢
    refine ⟨a, g, cA, W, cs, 2000 * i + 1, 14, ls, turnW, rfl, hl0, by omega, by decide, by decide, kW, Wg, by decide, (fun w h => h), L4.sat, by omega, fun H5 fv F hF5 ok f1 f2 s5 b5 => ?_⟩
    have L5 := L4.but b5 s5
    have f2 : F.length ≤ 19 := by omega
    have sm := small_of ok (by omega)
    clear L3 L4 s5 b5 gW kW nW Wg
    -- its text
    refine ⟨_, rfl, fv, F, rfl, hF5, by omega, sm, fun H6 g6 => ?_⟩
    have hF6 := hF5.grows g6
    have L6 := L5.grows g6
    clear hF5 L5 g6
    obtain ⟨t1, t2⟩ := text_fit ok (by omega) lo.small
    have sp := split_form ok f1 (lot_semi hls)
    have fin0 := fine_form ok sm
    have pl : (F.map pieceOf).length ≤ 4000 := by rw [List.length_map]; omega
    have t1 : (textOf F).length ≤ 494 := by omega
    generalize hT : textOf F = T at t1 t2 sp ⊢
    have bT : Bent T := ⟨by omega, fun c hc => by have := t2 c hc; omega⟩
    have okT : PyData.strOk T = true := strOk_of bT.ch
    have pch : ∀ z ∈ F.map pieceOf, ∀ c ∈ z.cps.toList, c < 0x110000 := by rw [← sp]; exact bT.parts.2.2
    obtain ⟨gd, gdp⟩ := rows_good fin0 pl pch
    -- formula_text
    refine ⟨_, rfl, _, rfl, .str ls, fv, rfl, .inr ⟨ls, rfl, hlsz, lo.ok, .inr ⟨F, hF6, ok, f1, by omega, chars, fun H7 g7 => ?_⟩⟩⟩
    rw [hT]
    refine ⟨_, rfl, .str T, .str T, .str T, rfl, .str T, .str T, good_str okT (by omega), by show 0 < 3; decide, fun H8 g8 => ⟨true, rfl, if_neg_of (by decide) ?_⟩⟩
    refine ⟨_, rfl, _, rfl, .str ls, fv, rfl, .inr ⟨ls, rfl, hlsz, lo.ok, .inr ⟨F, (hF6.grows g7).grows g8, ok, f1, by omega, chars, fun H9 g9 => ?_⟩⟩⟩
    rw [hT]
    refine ⟨_, rfl, rfl, _, rfl, if_neg_of (by rw [decide_eq_true rfl]; decide) ?_⟩
    have g69 := (g7.trans g8).trans g9
    have hF9 := hF6.grows g69
    have L9 := L6.grows g69
    clear hF6 L6 g69 g7 g8 g9
    -- read_formula
    have rd : ∀ {H0 H' : Hp} {p : Addr} {as : List Addr}, H' p = some (.tup (as.map V.ref)) → as.length = (Txt.split T "; ").length → (∀ (k : Nat) (a : Addr) (zk : Str) (xs : List V), as[k]? = some a → (Txt.split T "; ")[k]? = some zk → readW zk = some xs → H' a = some (.tup xs)) → ReadAt H' (.ref p) (F.map pieceOf) := fun {H0 H' p as} h1 h2 h3 => by
      rw [sp] at h2 h3
      exact ⟨p, as, rfl, h1, h2, h3⟩
    have nb : ∀ {k : Nat} {zk : Str}, (Txt.split T "; ")[k]? = some zk → badAt ls k zk = true → False := fun {k zk} h1 h2 => by
      rw [sp] at h1
      exact not_fine h1 h2 fin0
    refine ⟨_, rfl, _, rfl, .str ls, .str T, rfl, .inr ⟨ls, rfl, hlsz, lo.ok, .inr ⟨T, rfl, by omega, bT.ch, bT.parts.1, fun k zk h1 h2 => (nb h1 h2).elim, fun _ p as H10 g10 e1 e2 e3 => ?_⟩⟩⟩
    have r10 := rd (H0 := H10) e1 e2 e3
    have hF10 := hF9.grows g10
    refine ⟨_, rfl, .ref p, fv, rowsD (F.map pieceOf), rfl, read_dp r10 fin0 pl pch, read_dp (hF10.read sm) fin0 pl pch, gd, by omega, fun H11 g11 => ⟨true, rfl, if_neg_of (by decide) ?_⟩⟩
    refine ⟨_, rfl, _, rfl, .str ls, .str T, rfl, .inr ⟨ls, rfl, hlsz, lo.ok, .inr ⟨T, rfl, by omega, bT.ch, bT.parts.1, fun k zk h1 h2 => (nb h1 h2).elim, fun _ p2 as2 H12 g12 e1 e2 e3 => ?_⟩⟩⟩
    have r12 := rd (H0 := H12) e1 e2 e3
    have hF12 := (hF10.grows g11).grows g12
    refine ⟨_, rfl, rowsD (F.map pieceOf), rowsD (F.map pieceOf), read_dp r12 fin0 pl pch, read_dp (hF12.read sm) fin0 pl pch, gd.shaped, gd.shaped, _, rfl, ?_⟩
    rw [PySem.SeqAt.eqv_refl _ gd.can]
    refine if_neg_of (by decide) ?_
    have L12 := (((L9.grows g10).grows g11).grows g12)
    clear hF9 hF10 L9 g10 g11 g12 r10 r12
    -- the place and the sign
    refine ⟨_, rfl, _, rfl, T, rfl, by omega, _, _, rfl, rfl, a, g, cA, cs, _, _, rfl, L12.sat, by omega, by omega, by omega, fun H13 d d0 d1 s13 b13 => ?_⟩
    have L13 := L12.but b13 s13
    refine ⟨_, rfl, by show 8 ≤ sizeLine; omega, fun l1 nl1 => ?_⟩
    refine ⟨a, g, cA, l1, cs, _, _, rfl, (L13.grows (Grows.new nl1)).sat, by omega, upd_same, L13.offG nl1, by simp, by show 8 ≤ 1000000; decide, fun H14 x hx s14 b14 => ?_⟩
    have L14 := (L13.grows (Grows.new nl1)).but b14 s14
    obtain ⟨y, rfl, y1, y2⟩ : ∃ y : Str, x = .str y ∧ y.length ≤ 2 ∧ ∀ c ∈ y.cps.toList, c < 128 := by
      simp only [List.mem_cons, List.not_mem_nil, or_false] at hx
      rcases hx with rfl | rfl | rfl | rfl | rfl | rfl | rfl | rfl <;> exact ⟨_, rfl, by decide +kernel, by decide +kernel⟩
    clear hF12 L12 b13 s13 L13 s14 b14 hx
    -- the three texts
    have cm : ∀ {lo hi : Option Int} {c : Nat}, c ∈ (cutS T lo hi).cps.toList → c < 0x110000 := fun {lo hi c} h => bT.ch c (cut_mem h)
    have cl : ∀ lo hi : Option Int, (cutS T lo hi).length ≤ 494 := fun lo hi => Nat.le_trans (cutS_length T lo hi) t1
    have c1 := cl none (some d)
    have c2 := cl (some d) none
    have c3 := cl (some (d + 1)) none
    have lz : ∀ a b : Str, (a ++ b).length = a.length + b.length := app_len
    refine ⟨_, rfl, _, rfl, d, rfl, T, rfl, by omega, _, rfl, _, _, rfl, rfl, by omega, ?_⟩
    refine ⟨_, rfl, _, rfl, d, rfl, T, rfl, by omega, _, _, rfl, rfl, by rw [lz]; omega, ?_⟩
    refine ⟨_, rfl, _, rfl, d, rfl, T, rfl, by omega, _, rfl, _, rfl, _, _, rfl, rfl, d + 1, rfl, T, rfl, by omega, _, _, rfl, rfl, by omega, ?_⟩
    refine ⟨_, rfl, _, rfl, by show 7 ≤ sizeLine; omega, fun l2 nl2 => ?_⟩
    refine ⟨a, g, cA, l2, cs, _, _, rfl, (L14.grows (Grows.new nl2)).sat, by omega, upd_same, L14.offG nl2, by simp, by show 7 ≤ 1000000; decide, fun H15 x hx s15 b15 => ?_⟩
    have L15 := (L14.grows (Grows.new nl2)).but b15 s15
    obtain ⟨e, rfl, e1, e2⟩ : ∃ y : Str, x = .str y ∧ y.length ≤ 8 ∧ ∀ c ∈ y.cps.toList, c < 128 := by
      simp only [List.mem_cons, List.not_mem_nil, or_false] at hx
      rcases hx with rfl | rfl | rfl | rfl | rfl | rfl | rfl <;> exact ⟨_, rfl, by decide +kernel, by decide +kernel⟩
    refine ⟨_, _, rfl, rfl, by omega, ?_⟩
    have z1 : Bent (cutS T none (some d) ++ y ++ cutS T (some d) none) := Bent.app (fun c hc => by
      rw [app_cps] at hc
      rcases List.mem_append.mp hc with h | h
      · exact cm h
      · have := y2 c h; omega) (fun c hc => cm hc) (by rw [lz]; omega)
    have z2 : Bent (cutS T none (some d) ++ cutS T (some (d + 1)) none) := Bent.app (fun c hc => cm hc) (fun c hc => cm hc) (by omega)
    have z3 : Bent (T ++ e) := Bent.app bT.ch (fun c hc => by have := e2 c hc; omega) (by omega)
    generalize cutS T none (some d) ++ y ++ cutS T (some d) none = u1 at z1 ⊢
    generalize cutS T none (some d) ++ cutS T (some (d + 1)) none = u2 at z2 ⊢
    generalize T ++ e = u3 at z3 ⊢
    refine ⟨by show 3 ≤ sizeLine; omega, fun pl npl => ?_⟩
    have gl : Grows H15 (upd H15 pl (.lst [.str u1, .str u2, .str u3])) := Grows.new npl
    have kl : upd H15 pl (.lst [.str u1, .str u2, .str u3]) pl = some (.lst [.str u1, .str u2, .str u3]) := upd_same
    have L16 := (L15.grows gl).mono (show 2000 * i + 1 + 200 + 1 + 1 + 1 ≤ 2000 * (i + 1) by omega)
    generalize upd H15 pl (.lst [.str u1, .str u2, .str u3]) = H16 at gl kl L16 ⊢
    have ths : ∀ x ∈ ([.str u1, .str u2, .str u3] : List V), ∃ z : Str, x = .str z ∧ Bent z := fun x hx => by
      simp only [List.mem_cons, List.not_mem_nil, or_false] at hx
      rcases hx with rfl | rfl | rfl
      · exact ⟨_, rfl, z1⟩
      · exact ⟨_, rfl, z2⟩
      · exact ⟨_, rfl, z3⟩
    clear L14 L15 s15 b15 hx z1 z2 z3 e1 e2 y1 y2 c1 c2 c3 cl cm
    refine ⟨pl, rfl, ⟨_, .inl (.inl kl)⟩, for_it (walk_list (xs := [.str u1, .str u2, .str u3])) (fun j σ H' => (∃ w6 w7 w8 : Option V, σ = [some (.ref a0), some (.int (0 + (i : Int))), some fv, some (.str T), some (.int d), some (.str y), w6, w7, w8, v9, some (.str ls), some (.ref a)]) ∧ Grows H16 H')
      ⟨⟨_, _, _, rfl⟩, Grows.refl H16⟩ (fun _ _ H' _ p => .inl (.inl (p.2 _ _ kl))) ?_ ?_⟩
    · rintro j x σ H17x H17 hj ⟨⟨w6, w7, w8, rfl⟩, g17⟩ ⟨rfl, hx⟩
      obtain ⟨z, rfl, bz⟩ := ths x (List.mem_of_getElem? hx)
      obtain ⟨q1, q2, q3⟩ := bz.parts
      have zl := bz.len
      refine ⟨_, rfl, _, rfl, ls, z, rfl, by omega, bz.ch, q1, fun k zk hk hb hp t H18 g18 ht => ?_, fun hf t p as H18 g18 ht hp hl hr' => ?_⟩
      · refine ⟨t, _, rfl, .inl (.inl ht), rfl, _, _, rfl, _, _, rfl, rfl, ?_⟩
        refine ⟨_, rfl, rfl, _, rfl, if_pos_of rfl ?_⟩
        refine ⟨_, rfl, _, rfl, ls, .str z, rfl, hlsz, lo.ok, .inr ⟨z, rfl, by omega, bz.ch, q1, fun k2 zk2 hk2 hb2 hp2 H19 g19 => ?_, fun hf => (not_fine hk hb hf).elim⟩⟩
        obtain rfl := first_one hk hb hp hk2 hb2 hp2
        refine ⟨_, rfl, rfl, _, rfl, if_neg_of (by rw [decide_eq_true rfl]; decide) ?_⟩
        refine ⟨_, rfl, rfl, _, rfl, if_neg_of (by decide) ?_⟩
        exact ⟨⟨_, _, _, rfl⟩, (g17.trans g18).trans g19⟩
      · refine ⟨t, _, rfl, .inl (.inl ht), rfl, _, _, rfl, _, _, rfl, rfl, ?_⟩
        refine ⟨_, rfl, rfl, _, rfl, if_neg_of (by rw [decide_eq_false (fun e => by cases e)]; decide) ?_⟩
        refine ⟨_, rfl, rfl, _, rfl, if_pos_of (by rw [decide_eq_false (fun e => by cases e)]; decide) ?_⟩
        refine ⟨_, rfl, _, rfl, .str ls, .str z, rfl, .inr ⟨ls, rfl, hlsz, lo.ok, .inr ⟨z, rfl, by omega, bz.ch, q1, fun k2 zk2 hk2 hb2 => (not_fine hk2 hb2 hf).elim, fun _ p2 as2 H19 g19 e1 e2 e3 => ?_⟩⟩⟩
        have r19 : ReadAt H19 (.ref p2) (Txt.split z "; ") := ⟨p2, as2, rfl, e1, e2, e3⟩
        have r18 : ReadAt H18 (.ref p) (Txt.split z "; ") := ⟨p, as, rfl, hp, hl, hr'⟩
        have ll : (Txt.split z "; ").length ≤ 4000 := by omega
        obtain ⟨gd, gdp⟩ := rows_good hf ll q3
        refine ⟨_, rfl, .ref p2, .ref p, rowsD (Txt.split z "; "), rfl, read_dp r19 hf ll q3, read_dp (r18.grows g19) hf ll q3, gd, by omega, fun H20 g20 => ⟨true, rfl, if_neg_of (by decide) ?_⟩⟩
        exact ⟨⟨_, _, _, rfl⟩, ((g17.trans g18).trans g19).trans g20⟩
    · rintro σ H17 ⟨⟨w6, w7, w8, rfl⟩, g17⟩
      exact ⟨⟨_, _, _, _, _, _, _, _, _, _, .inr ⟨ls, hls, rfl⟩, rfl⟩, L16.grows g17⟩
  · rintro σ H4 ⟨⟨v1, v2, v3, v4, v5, v6, v7, v8, v9, v10, hv, rfl⟩, L⟩
    have L4 : LS H4 a g cA cs 12000 Pt := L
    obtain ⟨ls, hls, rfl⟩ : ∃ ls : Str, ls ∈ lettersL ∧ v10 = some (.str ls) := by
      rcases hv with hv | hv
      · exact absurd hv (show ¬ ((6 : Int).toNat = 0) by decide)
      · exact hv
    clear L
    have lo := lot_of hls
    have hl3 := lo.len
    have hl0 := lo.pos
    have hlsz : ls.length ≤ sizeLine := by omega
    have chars : ∀ c ∈ ls.cps.toList, c < 0x110000 := fun c hc => by have := lo.small c hc; omega
    -- what is no text
    refine ⟨_, rfl, _, rfl, by show 1 ≤ sizeLine; omega, fun la nla => ?_⟩
    have ga : Grows H4 (upd H4 la (.lst [.str "a"])) := Grows.new nla
    have ka : upd H4 la (.lst [.str "a"]) la = some (.lst [.str "a"]) := upd_same
    have L5 := L4.grows ga
    generalize upd H4 la (.lst [.str "a"]) = H5 at ga ka L5 ⊢
    refine ⟨by show 1 ≤ sizeLine; omega, fun ta nta => ?_⟩
    have gt : Grows H5 (upd H5 ta (.tup [.str "a"])) := Grows.new nta
    have kt : upd H5 ta (.tup [.str "a"]) ta = some (.tup [.str "a"]) := upd_same
    have L6 := L5.grows gt
    have ka := gt _ _ ka
    generalize upd H5 ta (.tup [.str "a"]) = H6 at gt kt ka L6 ⊢
    refine ⟨by show 4 ≤ sizeLine; omega, fun l1 nl1 => ?_⟩
    have gl : Grows H6 (upd H6 l1 (.lst [.non, .int 5, .ref la, .ref ta])) := Grows.new nl1
    refine ⟨a, g, cA, l1, cs, _, _, rfl, (L6.grows gl).sat, by omega, upd_same, L6.offG nl1, by simp, by show 4 ≤ 1000000; decide, fun H7 x hx s7 b7 => ?_⟩
    have L7 := (L6.grows gl).but b7 s7
    have laG := L4.offG nla
    have laA := L6.offA ka
    have ns : NotStr K H7 x := by
      simp only [List.mem_cons, List.not_mem_nil, or_false] at hx
      rcases hx with rfl | rfl | rfl | rfl
      · exact ⟨"NoneType", .base .non, by decide +kernel⟩
      · exact ⟨"int", .base (.int 5), by decide +kernel⟩
      · exact ⟨"list", .base (.lst (b7 _ _ (gl _ _ ka) laA laG)), by decide +kernel⟩
      · exact ⟨"tuple", .base (.tup (b7.tups (L6.grows gl).sat.off _ _ (gl _ _ kt))), by decide +kernel⟩
    clear b7 s7 gl kt ka laG laA L4 L5 L6
    refine ⟨ls, x, rfl, hlsz, lo.ok, .inl ⟨ns, fun H8 g8 => ?_⟩⟩
    refine ⟨_, _, .int 0, rfl, .int _, .int _, good_nat (j := 0) (by decide), by show 0 < 3; decide, fun H9 g9 => ⟨true, rfl, if_neg_of (by decide) ?_⟩⟩
    have se : Txt.split ("" : Str) "; " = ([""] : List Str) := by decide +kernel
    have be : ∀ k zk, ([""] : List Str)[k]? = some zk → k = 0 ∧ badAt ls k zk = true := fun k zk hk => by
      cases k with
      | zero =>
        rw [← Option.some.inj hk]
        exact ⟨rfl, rfl⟩
      | succ k => cases hk
    refine ⟨_, rfl, ls, .str "", rfl, hlsz, lo.ok, .inr ⟨"", rfl, by decide, (fun c hc => by cases hc), (fun p hp => by rw [se] at hp; rw [List.mem_singleton.mp hp]; decide), fun k zk hk _ _ H10 g10 => ?_, fun hf => ?_⟩⟩
    rotate_left
    · rw [se] at hf
      exact (not_fine (k := 0) (zk := "") rfl (be 0 "" rfl).2 hf).elim
    rw [se] at hk
    obtain ⟨rfl, _⟩ := be k zk hk
    refine ⟨_, _, .int 0, rfl, .int _, .int _, good_nat (j := 0) (by decide), by show 0 < 3; decide, fun H11 g11 => ⟨true, rfl, if_neg_of (by decide) ?_⟩⟩
    have L11 := (((L7.grows g8).grows g9).grows g10).grows g11
    clear g8 g9 g10 g11 L7 ns hk
    -- the long formula
    refine ⟨by show 1 ≤ sizeLine; omega, fun t0 nt0 => ?_⟩
    have g0 : Grows H11 (upd H11 t0 (.tup [.str "true"])) := Grows.new nt0
    have k0 : upd H11 t0 (.tup [.str "true"]) t0 = some (.tup [.str "true"]) := upd_same
    have L12 := L11.grows g0
    generalize upd H11 t0 (.tup [.str "true"]) = H12 at g0 k0 L12 ⊢
    refine ⟨by show 1 ≤ sizeLine; omega, fun t1 nt1 => ?_⟩
    have g1 : Grows H12 (upd H12 t1 (.tup [.ref t0])) := Grows.new nt1
    have k1 : upd H12 t1 (.tup [.ref t0]) t1 = some (.tup [.ref t0]) := upd_same
    have L13 := L12.grows g1
    have k0 := g1 _ _ k0
    generalize upd H12 t1 (.tup [.ref t0]) = H13 at g1 k1 k0 L13 ⊢
    refine ⟨_, rfl, by decide, by decide, fun D nD => ?_⟩
    refine lc_it walk_range (fun k H' => Grows H13 H' ∧ ∃ as : List Addr, H' D = some (.lst (as.map V.ref)) ∧ as.length = k ∧ ∀ (j : Nat) (b : Addr), as[j]? = some b → H' b = some (.tup [.str "not", nV j])) ⟨Grows.new nD, [], upd_same, rfl, fun j b h => by cases h⟩ (fun _ _ _ _ => trivial) ?_ ?_
    · rintro k y H14x H14 hk ⟨g14, as, kD, al, har⟩ ⟨rfl, rfl⟩
      have hk : k < 60 := hk
      refine ⟨rfl, ?_⟩
      refine ⟨_, rfl, by show 2 ≤ sizeLine; omega, fun t nt => ?_⟩
      have e0 : (0 : Int) + ((k : Nat) : Int) = ((k : Nat) : Int) := by omega
      dsimp only
      rw [e0]
      have gt : Grows H14 (upd H14 t (.tup [.str "not", .int ((k : Nat) : Int)])) := Grows.new nt
      have kt : upd H14 t (.tup [.str "not", .int ((k : Nat) : Int)]) t = some (.tup [.str "not", nV k]) := upd_same
      generalize upd H14 t (.tup [.str "not", .int ((k : Nat) : Int)]) = H15 at gt kt ⊢
      have kD5 := gt _ _ kD
      refine ⟨_, kD5, by rw [List.length_map]; omega, fun c o e => ?_, as ++ [t], by rw [upd_same, List.map_append]; rfl, by rw [List.length_append, al]; rfl, fun j b hb => ?_⟩
      · rw [upd_ne (ne_of_none e nD)]
        exact gt _ _ (g14 _ _ e)
      · by_cases c : j < as.length
        · rw [List.getElem?_append_left c] at hb
          have := gt _ _ (har j b hb)
          rw [upd_ne (ne_of this kD5 (by intro z; cases z))]
          exact this
        · have h0 : j - as.length = 0 := by
            have := (List.getElem?_eq_some_iff.mp hb).1
            rw [List.length_append, List.length_singleton] at this
            omega
          rw [List.getElem?_append_right (by omega), h0] at hb
          obtain rfl : t = b := Option.some.inj hb
          rw [upd_ne (ne_of kt kD5 (by intro z; cases z)), kt, show j = k by omega]
    · rintro H14 ⟨g14, as, kD, al, har⟩
      have al : as.length = 60 := al
      refine ⟨D, _, rfl, .inl ⟨.inl (.inl kD), fun p np => ?_⟩⟩
      have gp : Grows H14 (upd H14 p (.tup (as.map V.ref))) := Grows.new np
      have kp : upd H14 p (.tup (as.map V.ref)) p = some (.tup (as.map V.ref)) := upd_same
      have g15 := g14.trans gp
      have har : ∀ (j : Nat) (b : Addr), as[j]? = some b → upd H14 p (.tup (as.map V.ref)) b = some (.tup [.str "not", nV j]) := fun j b h => gp _ _ (har j b h)
      generalize upd H14 p (.tup (as.map V.ref)) = H15 at gp kp g15 har ⊢
      refine ⟨t1, p, _, _, rfl, rfl, .inl (.inl (g15 _ _ k1)), .inl (.inl kp), by simp, by rw [List.length_map]; show 1 + as.length ≤ _; omega, fun e => ?_, fun _ r nr => ?_⟩
      · have : (as.map V.ref).length = 0 := by rw [e]; rfl
        rw [List.length_map] at this
        omega
      have gr : Grows H15 (upd H15 r (.tup ([.ref t0] ++ as.map V.ref))) := Grows.new nr
      have kr : upd H15 r (.tup ([.ref t0] ++ as.map V.ref)) r = some (.tup ((t0 :: as).map V.ref)) := upd_same
      generalize upd H15 r (.tup ([.ref t0] ++ as.map V.ref)) = H16 at gr kr ⊢
      have g16 := g15.trans gr
      have L16 := L13.grows g16
      have hF : FormAtf H16 (.ref r) longF := by
        refine ⟨r, t0 :: as, rfl, kr, by rw [List.length_cons, al, long_len], fun k b s hb hs => ?_⟩
        cases k with
        | zero =>
          obtain rfl := Option.some.inj hb
          obtain rfl := Option.some.inj hs
          exact g16 _ _ k0
        | succ k =>
          have hb : as[k]? = some b := hb
          have hs : ((List.range 60).map Rf.nt)[k]? = some s := hs
          have kl := (List.getElem?_eq_some_iff.mp hb).1
          rw [List.getElem?_map, List.getElem?_range (by omega)] at hs
          rw [← Option.some.inj hs]
          exact gr _ _ (har k b hb)
      clear kr gr gp kp g15 har k1 k0 L11 L12 L13 g16 g14 kD
      have smL := small_of long_ok (by rw [long_len]; decide)
      have spL := split_form long_ok (by rw [long_len]; decide) (by decide +kernel)
      have finL := fine_form long_ok smL
      have bL : Bent (textOf longF) := ⟨by have := long_text.1; omega, long_text.2⟩
      have plL : (longF.map pieceOf).length ≤ 4000 := by rw [List.length_map, long_len]; decide
      have pchL : ∀ z ∈ longF.map pieceOf, ∀ c ∈ z.cps.toList, c < 0x110000 := by rw [← spL]; exact bL.parts.2.2
      obtain ⟨gd, gdp⟩ := rows_good finL plL pchL
      have ab1 : ∀ c ∈ ("ab" : Str).cps.toList, c < 0x110000 := by decide +kernel
      have ab2 : okLetters "ab" = true := by decide +kernel
      refine ⟨_, rfl, .str "ab", .ref r, rfl, .inr ⟨"ab", rfl, by decide, ab2, .inr ⟨longF, hF, long_ok, by rw [long_len]; decide, by rw [long_len]; decide, ab1, fun H17 g17 => ?_⟩⟩⟩
      refine ⟨.str "ab", .str (textOf longF), rfl, .inr ⟨"ab", rfl, by decide, ab2, .inr ⟨textOf longF, rfl, by have := bL.len; omega, bL.ch, bL.parts.1, fun k zk h1 h2 => ?_, fun _ p2 as2 H18 g18 e1 e2 e3 => ?_⟩⟩⟩
      · rw [spL] at h1
        exact (not_fine h1 h2 finL).elim
      rw [spL] at e2 e3
      have r18 : ReadAt H18 (.ref p2) (longF.map pieceOf) := ⟨p2, as2, rfl, e1, e2, e3⟩
      have hF18 := (hF.grows g17).grows g18
      have L18 := (L16.grows g17).grows g18
      refine ⟨_, rfl, rowsD (longF.map pieceOf), rowsD (longF.map pieceOf), read_dp r18 finL plL pchL, read_dp (hF18.read smL) finL plL pchL, gd.shaped, gd.shaped, _, rfl, ?_⟩
      rw [PySem.SeqAt.eqv_refl _ gd.can]
      refine if_neg_of (by decide) ?_
      clear hF18 hF r18 e1 e2 e3
      -- the refusals
      refine go_word (K := K) (fun H' => LS H' a g cA cs 12002 Pt) SF L18.tab (fun Ha E Q' ea ta hE => ?_) (fun Ha ax ra nax => ⟨rfl, _, rfl, if_neg_of (by decide +kernel) ?_⟩)
      · have La := L18.ext ea ta
        refine ⟨_, rfl, _, rfl, by show 0 ≤ sizeLine; omega, fun te nte => ?_⟩
        have ge : Grows Ha (upd Ha te (.tup [])) := Grows.new nte
        have ke : upd Ha te (.tup []) te = some (.tup []) := upd_same
        have Lb := La.grows ge
        generalize upd Ha te (.tup []) = Hb at ge ke Lb ⊢
        refine ⟨by show 3 ≤ sizeLine; omega, fun l2 nl2 => ?_⟩
        have gl := Grows.new (o := .lst [.non, .ref te, .str "a"]) nl2
        refine ⟨a, g, cA, l2, cs, _, _, rfl, (Lb.grows gl).sat, by omega, upd_same, Lb.offG nl2, by simp, by show 3 ≤ 1000000; decide, fun Hc x hx sc bc => ?_⟩
        have Lc := (Lb.grows gl).but bc sc
        have th : ∃ th, ThAt K Hc x th ∧ ThIn th ∧ okThf ls th = false := by
          simp only [List.mem_cons, List.not_mem_nil, or_false] at hx
          rcases hx with rfl | rfl | rfl
          · exact ⟨.no, ⟨"NoneType", .base .non, by decide +kernel⟩, True.intro, rfl⟩
          · exact ⟨.tup [], ⟨te, [], rfl, bc.tups (Lb.grows gl).sat.off _ _ (gl _ _ ke), rfl, fun k x e h => by cases h⟩, (fun e he => by cases he), rfl⟩
          · exact ⟨.no, ⟨"str", .base (.str "a"), by decide +kernel⟩, True.intro, rfl⟩
        obtain ⟨th, h1, h2, h3⟩ := th
        exact ⟨.str ls, x, rfl, .inr ⟨ls, rfl, hlsz, lo.ok, .inl ⟨th, h1, h2, h3, fun H' g' => hE H' ((Lc.grows g').mono (by omega))⟩⟩⟩
      · have Lz := ra.grows (Grows.new (o := .ext (Kept (.ref c7.F) none ax)) nax)
        refine go_word (K := K) (fun _ => True) SN Lz.tab (fun Ha E Q' ea ta hE => ?_) (fun Ha ax2 _ nax2 => ⟨rfl, ?_⟩)
        · exact ⟨.str "ba", .non, rfl, .inl ⟨.inr ⟨"ba", rfl, by decide, by decide +kernel⟩, fun H' _ => hE H' True.intro⟩⟩
        · rw [decide_eq_true rfl]
          exact q _
end
end SWL
set_option Elab.async false
set_option linter.all false
set_option maxRecDepth 100000
set_option maxHeartbeats 16000000
namespace SWL
open PySem PySem.Spec PyProof.Rows L2 LamX
/-! the facts of the top, gathered -/
theorem exm_by {K : PySem.W.Frag} {C : Value} {S : Addr} (h1 : PySem.W.subIn K (.ref S) (.type "BaseException") = some true) (h2 : PySem.W.isClsIn K S = true) (h3 : PySem.W.typeIn K (.ref S) = some (.type "type")) (h4 : PySem.W.subIn K C (.ref S) = some true) : PySem.W.exmOne K C (.ref S) = some true := by
  have e1 : (PySem.W.subIn K (.ref S) (.type "BaseException") == some true) = true := by rw [h1] <;> rfl
  have e2 : ((PySem.W.clsIn K S).isSome && PySem.W.typeIn K (.ref S) == some (.type "type")) = true := by
    have h5 : (PySem.W.clsIn K S).isSome = true := h2
    rw [h5, h3] <;> rfl
  show (if (PySem.W.subIn K (.ref S) (.type "BaseException") == some true) = true then (if ((PySem.W.clsIn K S).isSome && PySem.W.typeIn K (.ref S) == some (.type "type")) = true then PySem.W.subIn K C (.ref S) else none) else none) = some true
  rw [if_pos e1, if_pos e2]
  exact h4
theorem kit_self {K : PySem.W.Frag} {C : Addr} : PySem.W.kitOne K (.ref C) (.ref C) = some true := by
  unfold PySem.W.kitOne
  rw [if_pos (by simp)]
theorem kit_not {K : PySem.W.Frag} {C S : Addr} (h2 : PySem.W.isClsIn K S = true) (h3 : PySem.W.typeIn K (.ref S) = some (.type "type")) (h4 : PySem.W.subIn K (.ref C) (.ref S) = some false) (h : C ≠ S) : PySem.W.kitOne K (.ref C) (.ref S) = some false := by
  have e2 : ((PySem.W.clsIn K S).isSome && PySem.W.typeIn K (.ref S) == some (.type "type")) = true := by
    have h5 : (PySem.W.clsIn K S).isSome = true := h2
    rw [h5, h3] <;> rfl
  unfold PySem.W.kitOne
  rw [if_neg (by simpa using h)]
  show (if ((PySem.W.clsIn K S).isSome && PySem.W.typeIn K (.ref S) == some (.type "type")) = true then PySem.W.subIn K (.ref C) (.ref S) else none) = some false
  rw [if_pos e2]
  exact h4
theorem all_mk {l : PySem.W.OpenLaw} {w : World} {K : PySem.W.Frag} {h : Heap} {mg : Str → Option Value} {q : Program} {loose : List Str} {mean : ExcName → Option Value} {mb : Str → Option Value} {dL : DefRec} {fa : Addr} (X : K.In h) (G : h.Ns mainGlobals mg) (T : Top q loose mean mg mb h) (hfa : mg "law" = some (.ref fa))
    {f0 f1 f2 f3 f4 f5 f6 f7 f8 f9 f10 f11 f12 f13 f14 f15 f16 f17 f18 f19 f20 f21 f22 f23 cL Pt CS CX fX ZA CG CN CW CM CY CI CF : Addr} {oc0 dc0 pm0 ct0 kV0 cd0 oc1 dc1 pm1 ct1 kV1 cd1 oc2 dc2 pm2 ct2 kV2 cd2 oc3 dc3 pm3 ct3 kV3 cd3 oc4 dc4 pm4 ct4 kV4 cd4 oc5 dc5 pm5 ct5 kV5 cd5 oc6 dc6 pm6 ct6 kV6 cd6 oc7 dc7 pm7 ct7 kV7 cd7 oc8 dc8 pm8 ct8 kV8 cd8 oc9 dc9 pm9 ct9 kV9 cd9 oc10 dc10 pm10 ct10 kV10 cd10 oc11 dc11 pm11 ct11 kV11 cd11 oc12 dc12 pm12 ct12 kV12 cd12 oc13 dc13 pm13 ct13 kV13 cd13 oc14 dc14 pm14 ct14 kV14 cd14 oc15 dc15 pm15 ct15 kV15 cd15 oc16 dc16 pm16 ct16 kV16 cd16 oc17 dc17 pm17 ct17 kV17 cd17 oc18 dc18 pm18 ct18 kV18 cd18 oc19 dc19 pm19 ct19 kV19 cd19 oc20 dc20 pm20 ct20 kV20 cd20 oc21 dc21 pm21 ct21 kV21 cd21 oc22 dc22 pm22 ct22 kV22 cd22 oc23 dc23 pm23 ct23 kV23 ocX kVX dcX pmX cdX ctX ocT : Value} {od0 an0 od1 an1 od2 an2 od3 an3 od4 an4 od5 an5 od6 an6 od7 an7 od8 an8 od9 an9 od10 an10 od11 an11 od12 an12 od13 an13 od14 an14 od15 an15 od16 an16 od17 an17 od18 an18 od19 an19 od20 an20 od21 an21 od22 an22 od23 an23 odX anX odT : Option Addr} {sl0 sl1 sl2 sl3 sl4 sl5 sl6 sl7 sl8 sl9 sl10 sl11 sl12 sl13 sl14 sl15 sl16 sl17 sl18 sl19 sl20 sl21 sl22 sl23 slX slT : Array (Option Value)} {tS tL tT tA tZA0 tZA1 tZA2 tZA3 tZA4 tZA5 tZA6 tZA7 tZA8 tZA9 tZA10 : Tok} {vsT : Array Value} {esZA : Array DictEntry} {nZA : Nat}
    {nm q0 : Str} {N0 : Addr} {bs0 : List Value} {sn0 : List Str} {sub0 : List Value} {ab0 : Bool} {col0 : Option Bool} {dd0 : Option Addr} {m0 m1 m2 m3 m5 : Option Value}
    (hrec : (recsOf q).find? (fun e => e.name == ("law" : Str)) = some dL)
    (a0 : PySem.W.nsIn K mainGlobals "is_number" = some (some (.ref f0)))
    (l0 : K.lookup f0 = some ⟨oc0, od0, .func (PySem.W.fnOf "is_number" "is_number" (defArgs sIsNum) (defBody sIsNum) (defScope sIsNum) .none kV0 dc0 pm0 an0 cd0 ct0), sl0⟩)
    (c0 : PySem.W.codeIn K cd0 "is_number" = true)
    (k0 : PySem.W.keepIn K (.ref f0) = true)
    (a1 : PySem.W.nsIn K mainGlobals "is_letters" = some (some (.ref f1)))
    (l1 : K.lookup f1 = some ⟨oc1, od1, .func (PySem.W.fnOf "is_letters" "is_letters" (defArgs sIsL) (defBody sIsL) (defScope sIsL) .none kV1 dc1 pm1 an1 cd1 ct1), sl1⟩)
    (c1 : PySem.W.codeIn K cd1 "is_letters" = true)
    (k1 : PySem.W.keepIn K (.ref f1) = true)
    (a2 : PySem.W.nsIn K mainGlobals "need_letters" = some (some (.ref f2)))
    (l2 : K.lookup f2 = some ⟨oc2, od2, .func (PySem.W.fnOf "need_letters" "need_letters" (defArgs sNeedL) (defBody sNeedL) (defScope sNeedL) .none kV2 dc2 pm2 an2 cd2 ct2), sl2⟩)
    (c2 : PySem.W.codeIn K cd2 "need_letters" = true)
    (k2 : PySem.W.keepIn K (.ref f2) = true)
    (a3 : PySem.W.nsIn K mainGlobals "is_formula_row" = some (some (.ref f3)))
    (l3 : K.lookup f3 = some ⟨oc3, od3, .func (PySem.W.fnOf "is_formula_row" "is_formula_row" (defArgs sFRow) (defBody sFRow) (defScope sFRow) .none kV3 dc3 pm3 an3 cd3 ct3), sl3⟩)
    (c3 : PySem.W.codeIn K cd3 "is_formula_row" = true)
    (k3 : PySem.W.keepIn K (.ref f3) = true)
    (a4 : PySem.W.nsIn K mainGlobals "is_formula" = some (some (.ref f4)))
    (l4 : K.lookup f4 = some ⟨oc4, od4, .func (PySem.W.fnOf "is_formula" "is_formula" (defArgs sIsF) (defBody sIsF) (defScope sIsF) .none kV4 dc4 pm4 an4 cd4 ct4), sl4⟩)
    (c4 : PySem.W.codeIn K cd4 "is_formula" = true)
    (k4 : PySem.W.keepIn K (.ref f4) = true)
    (a5 : PySem.W.nsIn K mainGlobals "need_formula" = some (some (.ref f5)))
    (l5 : K.lookup f5 = some ⟨oc5, od5, .func (PySem.W.fnOf "need_formula" "need_formula" (defArgs sNeedF) (defBody sNeedF) (defScope sNeedF) .none kV5 dc5 pm5 an5 cd5 ct5), sl5⟩)
    (c5 : PySem.W.codeIn K cd5 "need_formula" = true)
    (k5 : PySem.W.keepIn K (.ref f5) = true)
    (a6 : PySem.W.nsIn K mainGlobals "row_text" = some (some (.ref f6)))
    (l6 : K.lookup f6 = some ⟨oc6, od6, .func (PySem.W.fnOf "row_text" "row_text" (defArgs sRowText) (defBody sRowText) (defScope sRowText) .none kV6 dc6 pm6 an6 cd6 ct6), sl6⟩)
    (c6 : PySem.W.codeIn K cd6 "row_text" = true)
    (k6 : PySem.W.keepIn K (.ref f6) = true)
    (a7 : PySem.W.nsIn K mainGlobals "formula_text" = some (some (.ref f7)))
    (l7 : K.lookup f7 = some ⟨oc7, od7, .func (PySem.W.fnOf "formula_text" "formula_text" (defArgs sFText) (defBody sFText) (defScope sFText) .none kV7 dc7 pm7 an7 cd7 ct7), sl7⟩)
    (c7 : PySem.W.codeIn K cd7 "formula_text" = true)
    (k7 : PySem.W.keepIn K (.ref f7) = true)
    (a8 : PySem.W.nsIn K mainGlobals "is_figures" = some (some (.ref f8)))
    (l8 : K.lookup f8 = some ⟨oc8, od8, .func (PySem.W.fnOf "is_figures" "is_figures" (defArgs sIsFig) (defBody sIsFig) (defScope sIsFig) .none kV8 dc8 pm8 an8 cd8 ct8), sl8⟩)
    (c8 : PySem.W.codeIn K cd8 "is_figures" = true)
    (k8 : PySem.W.keepIn K (.ref f8) = true)
    (a9 : PySem.W.nsIn K mainGlobals "row_read" = some (some (.ref f9)))
    (l9 : K.lookup f9 = some ⟨oc9, od9, .func (PySem.W.fnOf "row_read" "row_read" (defArgs sRowRead) (defBody sRowRead) (defScope sRowRead) .none kV9 dc9 pm9 an9 cd9 ct9), sl9⟩)
    (c9 : PySem.W.codeIn K cd9 "row_read" = true)
    (k9 : PySem.W.keepIn K (.ref f9) = true)
    (a10 : PySem.W.nsIn K mainGlobals "read_formula" = some (some (.ref f10)))
    (l10 : K.lookup f10 = some ⟨oc10, od10, .func (PySem.W.fnOf "read_formula" "read_formula" (defArgs sReadF) (defBody sReadF) (defScope sReadF) .none kV10 dc10 pm10 an10 cd10 ct10), sl10⟩)
    (c10 : PySem.W.codeIn K cd10 "read_formula" = true)
    (k10 : PySem.W.keepIn K (.ref f10) = true)
    (a11 : PySem.W.nsIn K mainGlobals "_law_begun" = some (some (.ref f11)))
    (l11 : K.lookup f11 = some ⟨oc11, od11, .func (PySem.W.fnOf "_law_begun" "_law_begun" (defArgs sBegun) (defBody sBegun) (defScope sBegun) .none kV11 dc11 pm11 an11 cd11 ct11), sl11⟩)
    (c11 : PySem.W.codeIn K cd11 "_law_begun" = true)
    (k11 : PySem.W.keepIn K (.ref f11) = true)
    (a12 : PySem.W.nsIn K mainGlobals "_law_mixed" = some (some (.ref f12)))
    (l12 : K.lookup f12 = some ⟨oc12, od12, .func (PySem.W.fnOf "_law_mixed" "_law_mixed" (defArgs sMixed) (defBody sMixed) (defScope sMixed) .none kV12 dc12 pm12 an12 cd12 ct12), sl12⟩)
    (c12 : PySem.W.codeIn K cd12 "_law_mixed" = true)
    (k12 : PySem.W.keepIn K (.ref f12) = true)
    (a13 : PySem.W.nsIn K mainGlobals "_law_draw" = some (some (.ref f13)))
    (l13 : K.lookup f13 = some ⟨oc13, od13, .func (PySem.W.fnOf "_law_draw" "_law_draw" (defArgs sDraw) (defBody sDraw) (defScope sDraw) .none kV13 dc13 pm13 an13 cd13 ct13), sl13⟩)
    (c13 : PySem.W.codeIn K cd13 "_law_draw" = true)
    (k13 : PySem.W.keepIn K (.ref f13) = true)
    (a14 : PySem.W.nsIn K mainGlobals "_law_pick" = some (some (.ref f14)))
    (l14 : K.lookup f14 = some ⟨oc14, od14, .func (PySem.W.fnOf "_law_pick" "_law_pick" (defArgs sPick) (defBody sPick) (defScope sPick) .none kV14 dc14 pm14 an14 cd14 ct14), sl14⟩)
    (c14 : PySem.W.codeIn K cd14 "_law_pick" = true)
    (k14 : PySem.W.keepIn K (.ref f14) = true)
    (a15 : PySem.W.nsIn K mainGlobals "_law_plain" = some (some (.ref f15)))
    (l15 : K.lookup f15 = some ⟨oc15, od15, .func (PySem.W.fnOf "_law_plain" "_law_plain" (defArgs sPlain) (defBody sPlain) (defScope sPlain) .none kV15 dc15 pm15 an15 cd15 ct15), sl15⟩)
    (c15 : PySem.W.codeIn K cd15 "_law_plain" = true)
    (k15 : PySem.W.keepIn K (.ref f15) = true)
    (a16 : PySem.W.nsIn K mainGlobals "_law_is" = some (some (.ref f16)))
    (l16 : K.lookup f16 = some ⟨oc16, od16, .func (PySem.W.fnOf "_law_is" "_law_is" (defArgs sIs) (defBody sIs) (defScope sIs) .none kV16 dc16 pm16 an16 cd16 ct16), sl16⟩)
    (c16 : PySem.W.codeIn K cd16 "_law_is" = true)
    (k16 : PySem.W.keepIn K (.ref f16) = true)
    (a17 : PySem.W.nsIn K mainGlobals "_law_word" = some (some (.ref f17)))
    (l17 : K.lookup f17 = some ⟨oc17, od17, .func (PySem.W.fnOf "_law_word" "_law_word" (defArgs sWord) (defBody sWord) (defScope sWord) .none kV17 dc17 pm17 an17 cd17 ct17), sl17⟩)
    (c17 : PySem.W.codeIn K cd17 "_law_word" = true)
    (k17 : PySem.W.keepIn K (.ref f17) = true)
    (a18 : PySem.W.nsIn K mainGlobals "_law_some_letters" = some (some (.ref f18)))
    (l18 : K.lookup f18 = some ⟨oc18, od18, .func (PySem.W.fnOf "_law_some_letters" "_law_some_letters" (defArgs sSomeL) (defBody sSomeL) (defScope sSomeL) .none kV18 dc18 pm18 an18 cd18 ct18), sl18⟩)
    (c18 : PySem.W.codeIn K cd18 "_law_some_letters" = true)
    (k18 : PySem.W.keepIn K (.ref f18) = true)
    (a19 : PySem.W.nsIn K mainGlobals "_law_some_full" = some (some (.ref f19)))
    (l19 : K.lookup f19 = some ⟨oc19, od19, .func (PySem.W.fnOf "_law_some_full" "_law_some_full" (defArgs sSomeFull) (defBody sSomeFull) (defScope sSomeFull) .none kV19 dc19 pm19 an19 cd19 ct19), sl19⟩)
    (c19 : PySem.W.codeIn K cd19 "_law_some_full" = true)
    (k19 : PySem.W.keepIn K (.ref f19) = true)
    (a20 : PySem.W.nsIn K mainGlobals "_law_text_of" = some (some (.ref f20)))
    (l20 : K.lookup f20 = some ⟨oc20, od20, .func (PySem.W.fnOf "_law_text_of" "_law_text_of" (defArgs sTextOf) (defBody sTextOf) (defScope sTextOf) .none kV20 dc20 pm20 an20 cd20 ct20), sl20⟩)
    (c20 : PySem.W.codeIn K cd20 "_law_text_of" = true)
    (k20 : PySem.W.keepIn K (.ref f20) = true)
    (a21 : PySem.W.nsIn K mainGlobals "_law_read" = some (some (.ref f21)))
    (l21 : K.lookup f21 = some ⟨oc21, od21, .func (PySem.W.fnOf "_law_read" "_law_read" (defArgs sLawRead) (defBody sLawRead) (defScope sLawRead) .none kV21 dc21 pm21 an21 cd21 ct21), sl21⟩)
    (c21 : PySem.W.codeIn K cd21 "_law_read" = true)
    (k21 : PySem.W.keepIn K (.ref f21) = true)
    (a22 : PySem.W.nsIn K mainGlobals "_law_refused" = some (some (.ref f22)))
    (l22 : K.lookup f22 = some ⟨oc22, od22, .func (PySem.W.fnOf "_law_refused" "_law_refused" (defArgs sRefused) (defBody sRefused) (defScope sRefused) .none kV22 dc22 pm22 an22 cd22 ct22), sl22⟩)
    (c22 : PySem.W.codeIn K cd22 "_law_refused" = true)
    (k22 : PySem.W.keepIn K (.ref f22) = true)
    (a23 : PySem.W.nsIn K mainGlobals "law" = some (some (.ref f23)))
    (l23 : K.lookup f23 = some ⟨oc23, od23, .func (PySem.W.fnOf "law" "law" (defArgs sLaw) (defBody sLaw) (defScope sLaw) .none kV23 dc23 pm23 an23 (.ref cL) ct23), sl23⟩)
    (c23 : PySem.W.codeIn K (.ref cL) "law" = true)
    (k23 : PySem.W.keepIn K (.ref f23) = true)
    (zs : PySem.W.nsIn K mainGlobals "SMALL" = some (some (.str "abcdefghijklmnopqrstuvwxyz" tS)))
    (zl : PySem.W.nsIn K mainGlobals "MOST_LETTERS" = some (some (.int 4 tL)))
    (zt : PySem.W.nsIn K mainGlobals "MOST_ROWS" = some (some (.int 6000 tT)))
    (za : PySem.W.nsIn K mainGlobals "FIGURES" = some (some (.str "0123456789" tA)))
    (zgZA : PySem.W.nsIn K mainGlobals "SIZES" = some (some (.ref ZA)))
    (zlZA : K.lookup ZA = some ⟨.type "dict", none, .dict esZA nZA, #[]⟩)
    (zkZA : esZA.toList.map He.keyOf = He.keysIn w.params ["true", "letter", "not", "and", "or", "next", "later", "until", "before", "earlier", "since"])
    (zoZA : (ZA == sysModules) = false)
    (wZA_true : PySem.W.nsIn K ZA "true" = some (some (.int 0 tZA0)))
    (wZA_letter : PySem.W.nsIn K ZA "letter" = some (some (.int 0 tZA1)))
    (wZA_not : PySem.W.nsIn K ZA "not" = some (some (.int 1 tZA2)))
    (wZA_and : PySem.W.nsIn K ZA "and" = some (some (.int 2 tZA3)))
    (wZA_or : PySem.W.nsIn K ZA "or" = some (some (.int 2 tZA4)))
    (wZA_next : PySem.W.nsIn K ZA "next" = some (some (.int 1 tZA5)))
    (wZA_later : PySem.W.nsIn K ZA "later" = some (some (.int 1 tZA6)))
    (wZA_until : PySem.W.nsIn K ZA "until" = some (some (.int 2 tZA7)))
    (wZA_before : PySem.W.nsIn K ZA "before" = some (some (.int 1 tZA8)))
    (wZA_earlier : PySem.W.nsIn K ZA "earlier" = some (some (.int 1 tZA9)))
    (wZA_since : PySem.W.nsIn K ZA "since" = some (some (.int 2 tZA10)))
    (z_isinstance : PySem.W.nsIn K mainGlobals "isinstance" = some none)
    (z_str : PySem.W.nsIn K mainGlobals "str" = some none)
    (z_int : PySem.W.nsIn K mainGlobals "int" = some none)
    (z_list : PySem.W.nsIn K mainGlobals "list" = some none)
    (z_tuple : PySem.W.nsIn K mainGlobals "tuple" = some none)
    (z_dict : PySem.W.nsIn K mainGlobals "dict" = some none)
    (z_len : PySem.W.nsIn K mainGlobals "len" = some none)
    (z_all : PySem.W.nsIn K mainGlobals "all" = some none)
    (z_any : PySem.W.nsIn K mainGlobals "any" = some none)
    (z_zip : PySem.W.nsIn K mainGlobals "zip" = some none)
    (z_sorted : PySem.W.nsIn K mainGlobals "sorted" = some none)
    (z_abs : PySem.W.nsIn K mainGlobals "abs" = some none)
    (z_range : PySem.W.nsIn K mainGlobals "range" = some none)
    (z_min : PySem.W.nsIn K mainGlobals "min" = some none)
    (z_repr : PySem.W.nsIn K mainGlobals "repr" = some none)
    (z_bool : PySem.W.nsIn K mainGlobals "bool" = some none)
    (z_enumerate : PySem.W.nsIn K mainGlobals "enumerate" = some none)
    (z_max : PySem.W.nsIn K mainGlobals "max" = some none)
    (lT : K.lookup cL = some ⟨ocT, odT, .fields vsT, slT⟩)
    (vT : (vsT[11]? : Option Value) = some (.ref Pt))
    (nT : K.lookup Pt = none)
    (aS : PySem.W.nsIn K mainGlobals "SwingError" = some (some (.ref CS)))
    (bS : PySem.W.subIn K (.ref CS) (.type "BaseException") = some true)
    (tS2 : PySem.W.typeIn K (.ref CS) = some (.type "type"))
    (iS : PySem.W.isClsIn K CS = true)
    (aG : PySem.W.nsIn K mainGlobals "TooGreat" = some (some (.ref CG)))
    (tG : PySem.W.typeIn K (.ref CG) = some (.type "type"))
    (iG : PySem.W.isClsIn K CG = true)
    (aW : PySem.W.nsIn K mainGlobals "NoWord" = some (some (.ref CW)))
    (tW : PySem.W.typeIn K (.ref CW) = some (.type "type"))
    (iW : PySem.W.isClsIn K CW = true)
    (aM : PySem.W.nsIn K mainGlobals "NoNumber" = some (some (.ref CM)))
    (tM : PySem.W.typeIn K (.ref CM) = some (.type "type"))
    (iM : PySem.W.isClsIn K CM = true)
    (aY : PySem.W.nsIn K mainGlobals "NoWay" = some (some (.ref CY)))
    (tY : PySem.W.typeIn K (.ref CY) = some (.type "type"))
    (iY : PySem.W.isClsIn K CY = true)
    (aI : PySem.W.nsIn K mainGlobals "NoSwing" = some (some (.ref CI)))
    (tI : PySem.W.typeIn K (.ref CI) = some (.type "type"))
    (iI : PySem.W.isClsIn K CI = true)
    (aN : PySem.W.nsIn K mainGlobals "NoLetters" = some (some (.ref CN)))
    (xN : PySem.W.excIn K CN veB "ValueError.__new__" = true)
    (kkN : PySem.W.keepIn K (.ref CN) = true)
    (bN : PySem.W.subIn K (.ref CN) (.type "BaseException") = some true)
    (tN : PySem.W.typeIn K (.ref CN) = some (.type "type"))
    (sN : PySem.W.subIn K (.ref CN) (.ref CS) = some true)
    (iN : PySem.W.isClsIn K CN = true)
    (gN : PySem.W.findIn K (.ref CN) "__getattribute__" = some (some (.builtin "BaseException.__getattribute__")))
    (hN : PySem.W.findIn K (.ref CN) "__getattr__" = some none)
    (dN : PySem.W.hasDictIn K CN = true)
    (ccN : PySem.W.findIn K (.ref CN) "__class__" = some (some (.builtin "object.__class__")))
    (moN : PySem.W.mroIn K CN (.type "object") = some true)
    (aF : PySem.W.nsIn K mainGlobals "NoFormula" = some (some (.ref CF)))
    (xF : PySem.W.excIn K CF veB "ValueError.__new__" = true)
    (kkF : PySem.W.keepIn K (.ref CF) = true)
    (bF : PySem.W.subIn K (.ref CF) (.type "BaseException") = some true)
    (tF : PySem.W.typeIn K (.ref CF) = some (.type "type"))
    (sF : PySem.W.subIn K (.ref CF) (.ref CS) = some true)
    (iF : PySem.W.isClsIn K CF = true)
    (gF : PySem.W.findIn K (.ref CF) "__getattribute__" = some (some (.builtin "BaseException.__getattribute__")))
    (hF : PySem.W.findIn K (.ref CF) "__getattr__" = some none)
    (dF : PySem.W.hasDictIn K CF = true)
    (ccF : PySem.W.findIn K (.ref CF) "__class__" = some (some (.builtin "object.__class__")))
    (moF : PySem.W.mroIn K CF (.type "object") = some true)
    (sp0 : PySem.W.specialIn K (.builtin "object.__class__") "__get__" = some (some (.builtin "getset_descriptor.__get__")))
    (tk0 : PySem.W.takesIn K (.builtin "object.__class__") = some true)
    (aX : PySem.W.nsIn K mainGlobals "NoText" = some (some (.ref CX)))
    (xX : K.lookup CX = some (excClassObj nm q0 CX N0 bs0 [.ref CS, .type "ValueError", .type "Exception", .type "BaseException", .type "object"] true sn0 sub0 ab0 col0 dd0 m0 m1 m2 m3 m5 "ValueError.__new__"))
    (saX : PySem.W.findIn K (.ref CX) "__setattr__" = some (some (.builtin "object.__setattr__")))
    (bX : PySem.W.subIn K (.ref CX) (.type "BaseException") = some true)
    (tX : PySem.W.typeIn K (.ref CX) = some (.type "type"))
    (kX : PySem.W.keepIn K (.ref CX) = true)
    (jX : PySem.W.findIn K (.ref CX) "__init__" = some (some (.ref fX)))
    (tfX : PySem.W.typeIn K (.ref fX) = some (.type "function"))
    (lX : K.lookup fX = some ⟨ocX, odX, .func (PySem.W.fnOf "__init__" "NoText.__init__" (defArgs sNTInit) (defBody sNTInit) (defScope sNTInit) .none kVX dcX pmX anX cdX ctX), slX⟩)
    (cX : PySem.W.codeIn K cdX "NoText.__init__" = true)
    (kfX : PySem.W.keepIn K (.ref fX) = true)
    (atX : PySem.W.findIn K (.ref CX) "at" = some none)
    (gX : PySem.W.findIn K (.ref CX) "__getattribute__" = some (some (.builtin "BaseException.__getattribute__")))
    (hX : PySem.W.findIn K (.ref CX) "__getattr__" = some none)
    (dX : PySem.W.hasDictIn K CX = true)
    (iX : PySem.W.isClsIn K CX = true)
    (sX : PySem.W.subIn K (.ref CX) (.ref CX) = some true)
    (uNG : PySem.W.subIn K (.ref CN) (.ref CG) = some false)
    (vNG : CN ≠ CG)
    (uFG : PySem.W.subIn K (.ref CF) (.ref CG) = some false)
    (vFG : CF ≠ CG)
    (uFN : PySem.W.subIn K (.ref CF) (.ref CN) = some false)
    (vFN : CF ≠ CN)
    (uFW : PySem.W.subIn K (.ref CF) (.ref CW) = some false)
    (vFW : CF ≠ CW)
    (uFM : PySem.W.subIn K (.ref CF) (.ref CM) = some false)
    (vFM : CF ≠ CM)
    (uFY : PySem.W.subIn K (.ref CF) (.ref CY) = some false)
    (vFY : CF ≠ CY)
    (uFI : PySem.W.subIn K (.ref CF) (.ref CI) = some false)
    (vFI : CF ≠ CI)
    : LawG l w K 19 63 "script" mg fa h := by
  have e := hfa.symm.trans (PySem.W.mg_of X G a23)
  cases e
  have B : Blt mg := ⟨PySem.W.mg_none_of X G z_isinstance, PySem.W.mg_none_of X G z_str, PySem.W.mg_none_of X G z_int, PySem.W.mg_none_of X G z_list, PySem.W.mg_none_of X G z_tuple, PySem.W.mg_none_of X G z_dict, PySem.W.mg_none_of X G z_len, PySem.W.mg_none_of X G z_all, PySem.W.mg_none_of X G z_any, PySem.W.mg_none_of X G z_zip, PySem.W.mg_none_of X G z_sorted, PySem.W.mg_none_of X G z_abs, PySem.W.mg_none_of X G z_range, PySem.W.mg_none_of X G z_min, PySem.W.mg_none_of X G z_repr, PySem.W.mg_none_of X G z_bool, PySem.W.mg_none_of X G z_enumerate, PySem.W.mg_none_of X G z_max, ⟨_, PySem.W.mg_of X G zs⟩, ⟨_, PySem.W.mg_of X G zl⟩, ⟨_, PySem.W.mg_of X G zt⟩, ⟨_, PySem.W.mg_of X G za⟩⟩
  have kNG := kit_not iG tG uNG vNG
  have kFG := kit_not iG tG uFG vFG
  have kFN := kit_not iN tN uFN vFN
  have kFW := kit_not iW tW uFW vFW
  have kFM := kit_not iM tM uFM vFM
  have kFY := kit_not iY tY uFY vFY
  have kFI := kit_not iI tI uFI vFI
  let cS7 : Cs7 := ⟨CG, CN, CW, CM, CY, CI, CF⟩
  have mgG := PySem.W.mg_of X G aG
  have mgN := PySem.W.mg_of X G aN
  have mgW := PySem.W.mg_of X G aW
  have mgM := PySem.W.mg_of X G aM
  have mgY := PySem.W.mg_of X G aY
  have mgI := PySem.W.mg_of X G aI
  have mgF := PySem.W.mg_of X G aF
  have m7 : Mg7 mg cS7 := ⟨mgG, mgN, mgW, mgM, mgY, mgI, mgF⟩
  have eN := exm_by bS iS tS2 sN
  have EN : ErrC K mg "NoLetters" CN CS := ⟨mgN, xN, kkN, bN, tN, eN⟩
  have SN : SeenW K cS7.N CS cS7 "letters" := ⟨eN, ⟨gN, hN, bN, dN, ccN, sp0, tk0, moN⟩, fun R r => .inr ⟨kNG, .inl ⟨kit_self, r⟩⟩⟩
  have eF := exm_by bS iS tS2 sF
  have EF : ErrC K mg "NoFormula" CF CS := ⟨mgF, xF, kkF, bF, tF, eF⟩
  have SF : SeenW K cS7.F CS cS7 "formula" := ⟨eF, ⟨gF, hF, bF, dF, ccF, sp0, tk0, moF⟩, fun R r => .inr ⟨kFG, .inr ⟨kFN, .inr ⟨kFW, .inr ⟨kFM, .inr ⟨kFY, .inr ⟨kFI, .inl ⟨kit_self, r⟩⟩⟩⟩⟩⟩⟩⟩
  have ZK : SizesK K w mg ZA := ⟨PySem.W.mg_of X G zgZA, ⟨_, _, ⟨zlZA, He.keysLit_of zkZA, zoZA⟩⟩, fun z => by
    by_cases h0 : z = "true"
    · subst h0; exact .inr ⟨_, _, rfl, wZA_true⟩
    by_cases h1 : z = "letter"
    · subst h1; exact .inr ⟨_, _, rfl, wZA_letter⟩
    by_cases h2 : z = "not"
    · subst h2; exact .inr ⟨_, _, rfl, wZA_not⟩
    by_cases h3 : z = "and"
    · subst h3; exact .inr ⟨_, _, rfl, wZA_and⟩
    by_cases h4 : z = "or"
    · subst h4; exact .inr ⟨_, _, rfl, wZA_or⟩
    by_cases h5 : z = "next"
    · subst h5; exact .inr ⟨_, _, rfl, wZA_next⟩
    by_cases h6 : z = "later"
    · subst h6; exact .inr ⟨_, _, rfl, wZA_later⟩
    by_cases h7 : z = "until"
    · subst h7; exact .inr ⟨_, _, rfl, wZA_until⟩
    by_cases h8 : z = "before"
    · subst h8; exact .inr ⟨_, _, rfl, wZA_before⟩
    by_cases h9 : z = "earlier"
    · subst h9; exact .inr ⟨_, _, rfl, wZA_earlier⟩
    by_cases h10 : z = "since"
    · subst h10; exact .inr ⟨_, _, rfl, wZA_since⟩
    refine .inl ⟨?_, nsIn_none zlZA zkZA (by simp only [List.mem_cons, List.not_mem_nil, or_false, not_or]; exact ⟨h0, h1, h2, h3, h4, h5, h6, h7, h8, h9, h10⟩)⟩
    unfold formsf
    rw [if_neg h1]
    unfold sizeWf
    rw [if_neg h0, if_neg h2, if_neg h3, if_neg h4, if_neg h5, if_neg h6, if_neg h7, if_neg h8, if_neg h9, if_neg h10]⟩
  have XC : OexC K CX := ⟨⟨_, _, _, _, _, _, _, _, _, _, _, _, _, _, _, xX, rfl⟩, saX, bX, tX, kX⟩
  have eX := exm_by bX iX tX sX
  have XX : NoTextX K mg CX := ⟨PySem.W.mg_of X G aX, ⟨gX, hX, bX, dX⟩, atX, eX⟩
  have XK : NoTextK K mg CX fX := ⟨PySem.W.mg_of X G aX, XC, jX, tfX⟩
  have FX := fun_mk (st := sNTInit) lX cX kfX
  have XB : BindsN K _ := ⟨FX.binds (ps := ["self", "at"]) fun _ _ _ _ _ _ us hl => match us, hl with | [_, _], _ => rfl⟩
  have F0 := fun_mk (st := sIsNum) l0 c0 k0
  have D0 : Def mg K "is_number" f0 _ ["thing", "least", "most"] := ⟨PySem.W.mg_of X G a0, k0, F0.binds (ps := ["thing", "least", "most"]) fun _ _ _ _ _ _ us hl => match us, hl with | [_, _, _], _ => rfl⟩
  have F1 := fun_mk (st := sIsL) l1 c1 k1
  have D1 : Def mg K "is_letters" f1 _ ["thing"] := ⟨PySem.W.mg_of X G a1, k1, F1.binds (ps := ["thing"]) fun _ _ _ _ _ _ us hl => match us, hl with | [_], _ => rfl⟩
  have F2 := fun_mk (st := sNeedL) l2 c2 k2
  have D2 : Def mg K "need_letters" f2 _ ["thing"] := ⟨PySem.W.mg_of X G a2, k2, F2.binds (ps := ["thing"]) fun _ _ _ _ _ _ us hl => match us, hl with | [_], _ => rfl⟩
  have F3 := fun_mk (st := sFRow) l3 c3 k3
  have D3 : Def mg K "is_formula_row" f3 _ ["letters", "thing", "at"] := ⟨PySem.W.mg_of X G a3, k3, F3.binds (ps := ["letters", "thing", "at"]) fun _ _ _ _ _ _ us hl => match us, hl with | [_, _, _], _ => rfl⟩
  have F4 := fun_mk (st := sIsF) l4 c4 k4
  have D4 : Def mg K "is_formula" f4 _ ["letters", "thing"] := ⟨PySem.W.mg_of X G a4, k4, F4.binds (ps := ["letters", "thing"]) fun _ _ _ _ _ _ us hl => match us, hl with | [_, _], _ => rfl⟩
  have F5 := fun_mk (st := sNeedF) l5 c5 k5
  have D5 : Def mg K "need_formula" f5 _ ["letters", "formula"] := ⟨PySem.W.mg_of X G a5, k5, F5.binds (ps := ["letters", "formula"]) fun _ _ _ _ _ _ us hl => match us, hl with | [_, _], _ => rfl⟩
  have F6 := fun_mk (st := sRowText) l6 c6 k6
  have D6 : Def mg K "row_text" f6 _ ["row"] := ⟨PySem.W.mg_of X G a6, k6, F6.binds (ps := ["row"]) fun _ _ _ _ _ _ us hl => match us, hl with | [_], _ => rfl⟩
  have F7 := fun_mk (st := sFText) l7 c7 k7
  have D7 : Def mg K "formula_text" f7 _ ["letters", "formula"] := ⟨PySem.W.mg_of X G a7, k7, F7.binds (ps := ["letters", "formula"]) fun _ _ _ _ _ _ us hl => match us, hl with | [_, _], _ => rfl⟩
  have F8 := fun_mk (st := sIsFig) l8 c8 k8
  have D8 : Def mg K "is_figures" f8 _ ["text"] := ⟨PySem.W.mg_of X G a8, k8, F8.binds (ps := ["text"]) fun _ _ _ _ _ _ us hl => match us, hl with | [_], _ => rfl⟩
  have F9 := fun_mk (st := sRowRead) l9 c9 k9
  have D9 : Def mg K "row_read" f9 _ ["text"] := ⟨PySem.W.mg_of X G a9, k9, F9.binds (ps := ["text"]) fun _ _ _ _ _ _ us hl => match us, hl with | [_], _ => rfl⟩
  have F10 := fun_mk (st := sReadF) l10 c10 k10
  have D10 : Def mg K "read_formula" f10 _ ["letters", "text"] := ⟨PySem.W.mg_of X G a10, k10, F10.binds (ps := ["letters", "text"]) fun _ _ _ _ _ _ us hl => match us, hl with | [_, _], _ => rfl⟩
  have F11 := fun_mk (st := sBegun) l11 c11 k11
  have D11 : Def mg K "_law_begun" f11 _ ["script"] := ⟨PySem.W.mg_of X G a11, k11, F11.binds (ps := ["script"]) fun _ _ _ _ _ _ us hl => match us, hl with | [_], _ => rfl⟩
  have F12 := fun_mk (st := sMixed) l12 c12 k12
  have D12 : Def mg K "_law_mixed" f12 _ ["state"] := ⟨PySem.W.mg_of X G a12, k12, F12.binds (ps := ["state"]) fun _ _ _ _ _ _ us hl => match us, hl with | [_], _ => rfl⟩
  have F13 := fun_mk (st := sDraw) l13 c13 k13
  have D13 : Def mg K "_law_draw" f13 _ ["state", "room"] := ⟨PySem.W.mg_of X G a13, k13, F13.binds (ps := ["state", "room"]) fun _ _ _ _ _ _ us hl => match us, hl with | [_, _], _ => rfl⟩
  have F14 := fun_mk (st := sPick) l14 c14 k14
  have D14 : Def mg K "_law_pick" f14 _ ["state", "some"] := ⟨PySem.W.mg_of X G a14, k14, F14.binds (ps := ["state", "some"]) fun _ _ _ _ _ _ us hl => match us, hl with | [_, _], _ => rfl⟩
  have F15 := fun_mk (st := sPlain) l15 c15 k15
  have D15 : Def mg K "_law_plain" f15 _ ["value"] := ⟨PySem.W.mg_of X G a15, k15, F15.binds (ps := ["value"]) fun _ _ _ _ _ _ us hl => match us, hl with | [_], _ => rfl⟩
  have F16 := fun_mk (st := sIs) l16 c16 k16
  have D16 : Def mg K "_law_is" f16 _ ["found", "due"] := ⟨PySem.W.mg_of X G a16, k16, F16.binds (ps := ["found", "due"]) fun _ _ _ _ _ _ us hl => match us, hl with | [_, _], _ => rfl⟩
  have F17 := fun_mk (st := sWord) l17 c17 k17
  have D17 : Def mg K "_law_word" f17 _ ["action"] := ⟨PySem.W.mg_of X G a17, k17, F17.binds (ps := ["action"]) fun _ _ _ _ _ _ us hl => match us, hl with | [_], _ => rfl⟩
  have F18 := fun_mk (st := sSomeL) l18 c18 k18
  have D18 : Def mg K "_law_some_letters" f18 _ ["state"] := ⟨PySem.W.mg_of X G a18, k18, F18.binds (ps := ["state"]) fun _ _ _ _ _ _ us hl => match us, hl with | [_], _ => rfl⟩
  have F19 := fun_mk (st := sSomeFull) l19 c19 k19
  have D19 : Def mg K "_law_some_full" f19 _ ["state", "letters", "many", "words"] := ⟨PySem.W.mg_of X G a19, k19, F19.binds (ps := ["state", "letters", "many", "words"]) fun _ _ _ _ _ _ us hl => match us, hl with | [_, _, _, _], _ => rfl⟩
  have F20 := fun_mk (st := sTextOf) l20 c20 k20
  have D20 : Def mg K "_law_text_of" f20 _ ["formula"] := ⟨PySem.W.mg_of X G a20, k20, F20.binds (ps := ["formula"]) fun _ _ _ _ _ _ us hl => match us, hl with | [_], _ => rfl⟩
  have F21 := fun_mk (st := sLawRead) l21 c21 k21
  have D21 : Def mg K "_law_read" f21 _ ["letters", "text"] := ⟨PySem.W.mg_of X G a21, k21, F21.binds (ps := ["letters", "text"]) fun _ _ _ _ _ _ us hl => match us, hl with | [_, _], _ => rfl⟩
  have F22 := fun_mk (st := sRefused) l22 c22 k22
  have D22 : Def mg K "_law_refused" f22 _ ["letters", "text"] := ⟨PySem.W.mg_of X G a22, k22, F22.binds (ps := ["letters", "text"]) fun _ _ _ _ _ _ us hl => match us, hl with | [_, _], _ => rfl⟩
  have KA : KBinds K (PySem.W.fnOf "formula_text" "formula_text" (defArgs sFText) (defBody sFText) (defScope sFText) .none kV7 dc7 pm7 an7 cd7 ct7) ["letters", "formula"] ["formula", "letters"] (fun us ws => us ++ ws.reverse) (fun us ws => us ++ ws.reverse) := by
    refine ⟨fun s us ws _ hl => ?_, fun r1 r2 => r1.append (vals_rev r2)⟩
    rw [List.length_append, List.length_reverse] at hl
    have hl2 : us.length + ws.length = 2 := hl
    rcases us with _ | ⟨u1, _ | ⟨u2, _ | ⟨u3, us⟩⟩⟩ <;> rcases ws with _ | ⟨w1, _ | ⟨w2, _ | ⟨w3, ws⟩⟩⟩ <;> first | (exfalso; simp only [List.length_cons, List.length_nil] at hl2; omega) | exact .of_eq rfl
  have KB : KBinds K (PySem.W.fnOf "read_formula" "read_formula" (defArgs sReadF) (defBody sReadF) (defScope sReadF) .none kV10 dc10 pm10 an10 cd10 ct10) ["letters", "text"] ["text", "letters"] (fun us ws => us ++ ws.reverse) (fun us ws => us ++ ws.reverse) := by
    refine ⟨fun s us ws _ hl => ?_, fun r1 r2 => r1.append (vals_rev r2)⟩
    rw [List.length_append, List.length_reverse] at hl
    have hl2 : us.length + ws.length = 2 := hl
    rcases us with _ | ⟨u1, _ | ⟨u2, _ | ⟨u3, us⟩⟩⟩ <;> rcases ws with _ | ⟨w1, _ | ⟨w2, _ | ⟨w3, ws⟩⟩⟩ <;> first | (exfalso; simp only [List.length_cons, List.length_nil] at hl2; omega) | exact .of_eq rfl
  have CK : WordK K mg f17 := ⟨D17.g, D17.k, _, _, _, _, _, _, _, _, _, l17, c17, D17.b⟩
  have ht : PySem.W.tabIn K "law" = some (cL, Pt) := by
    unfold PySem.W.tabIn
    simp only [a23, l23, PySem.W.fnOf, lT, vT]
  obtain ⟨hc, hp⟩ := PySem.W.tab_of T X hrec ht
  refine ⟨PySem.W.fnOf "law" "law" (defArgs sLaw) (defBody sLaw) (defScope sLaw) .none kV23 dc23 pm23 an23 (.ref cL) ct23, [(cL, Pt)], spLaw K Pt, fun p hpm => ?_, fun p hpm => ?_, fun p hpm => ?_, fun s u => .of_eq rfl, fun H a ns hn _ ht hs => ?_, fun base KX NG TB => ?_⟩
  · cases List.mem_singleton.mp hpm
    exact hp
  · cases List.mem_singleton.mp hpm
    exact nT
  · cases List.mem_singleton.mp hpm
    exact hc
  · exact ⟨a, ns, rfl, hs, hn, ht (cL, Pt) List.mem_cons_self, fun _ => rfl⟩
  · have G1 := ok_isL (P := l.prog) (w := w) (base := base) F1 B
    have G2 := ok_needL (P := l.prog) (w := w) (base := base) F2 G1 D1 EN
    have G0 := ok_isNum (P := l.prog) (w := w) (base := base) F0 B 
    have ZR := ok_fRow (P := l.prog) (w := w) (base := base) F3 B ZK G0 D0
    have ZT := ok_isF (P := l.prog) (w := w) (base := base) F4 B G2 D2 ZR D3
    have ZU := ok_needF (P := l.prog) (w := w) (base := base) F5 EF ZT D4
    have G6 := ok_rowText (P := l.prog) (w := w) (base := base) F6 B 
    have ZF := ok_fText (P := l.prog) (w := w) (base := base) F7 ZU D5 G6 D6
    have G8 := ok_isFig (P := l.prog) (w := w) (base := base) F8 B 
    have G9 := ok_rowRead (P := l.prog) (w := w) (base := base) F9 B G8 D8
    have ZN := ok_ntInit (P := l.prog) (w := w) (mg := mg) (base := base) FX XC atX
    have ZD := ok_readF (P := l.prog) (w := w) (base := base) F10 B XK ZN XB G2 D2 G9 D9 ZR D3
    have G11 := ok_begun (P := l.prog) (w := w) (base := base) F11 B 
    have G12 := ok_mixed (P := l.prog) (w := w) (base := base) F12 B 
    have G13 := ok_draw (P := l.prog) (w := w) (base := base) F13 B G12 D12
    have G14 := ok_pick (P := l.prog) (w := w) (base := base) F14 B G13 D13
    have G15 := ok_plain (P := l.prog) (w := w) (base := base) F15 B D15 3
    have G16 := ok_isV (P := l.prog) (w := w) (base := base) F16 B G15 D15
    have G18 := ok_someL (P := l.prog) (w := w) (base := base) F18 G14 D14
    have G19 := ok_someFull (P := l.prog) (w := w) (base := base) F19 B G13 D13 G14 D14
    have G20 := ok_textOf (P := l.prog) (w := w) (base := base) F20 B 
    have G21 := ok_lawRead (P := l.prog) (w := w) (base := base) F21 B 
    have ZX := ok_refused (P := l.prog) (w := w) (base := base) F22 XX ZD D10
    exact ok_law l23 c23 B ⟨⟨_, _, D11, G11⟩, ⟨_, _, D13, G13⟩, ⟨_, _, D14, G14⟩, ⟨_, _, D18, G18⟩, ⟨_, _, D19, G19⟩, ⟨_, _, D20, G20⟩, ⟨_, _, D21, G21⟩, ⟨_, _, D22, ZX⟩, ⟨_, _, D16, G16⟩, ⟨_, _, D7, KA, ZF⟩, ⟨_, _, D10, KB, ZD⟩⟩ CK (TB (cL, Pt) List.mem_cons_self) m7 (PySem.W.mg_of X G aS) SN SF
end SWL
set_option Elab.async false
set_option linter.all false
set_option maxRecDepth 100000
open PySem PySem.W PyProof.Rows
set_option maxHeartbeats 0 in
theorem PySem.Challenge.cw_swinglogic_k83_whole_formulas_as_texts_holds : PySem.Challenge.rw_swinglogic_k83_whole_formulas_as_texts.Holds := by
  w_on; o_law; k_head; (case hw => w_witness2)
  k_fill
  refine SWL.walk_ofG (l := PySem.Challenge.rw_swinglogic_k83_whole_formulas_as_texts) (n := 63) (k := 19) (x := "script") rfl (by decide) rfl ⟨rfl, by decide, by decide⟩ (fun w h Y => PySem.W.km_in_of Y) ?F
  case F =>
    intro w mg fa h loose mean mb T Y KX G hmg
    refine' SWL.all_mk KX G T hmg ?hrec ?a0 ?l0 ?c0 ?k0 ?a1 ?l1 ?c1 ?k1 ?a2 ?l2 ?c2 ?k2 ?a3 ?l3 ?c3 ?k3 ?a4 ?l4 ?c4 ?k4 ?a5 ?l5 ?c5 ?k5 ?a6 ?l6 ?c6 ?k6 ?a7 ?l7 ?c7 ?k7 ?a8 ?l8 ?c8 ?k8 ?a9 ?l9 ?c9 ?k9 ?a10 ?l10 ?c10 ?k10 ?a11 ?l11 ?c11 ?k11 ?a12 ?l12 ?c12 ?k12 ?a13 ?l13 ?c13 ?k13 ?a14 ?l14 ?c14 ?k14 ?a15 ?l15 ?c15 ?k15 ?a16 ?l16 ?c16 ?k16 ?a17 ?l17 ?c17 ?k17 ?a18 ?l18 ?c18 ?k18 ?a19 ?l19 ?c19 ?k19 ?a20 ?l20 ?c20 ?k20 ?a21 ?l21 ?c21 ?k21 ?a22 ?l22 ?c22 ?k22 ?a23 ?l23 ?c23 ?k23 ?zs ?zl ?zt ?za ?zgZA ?zlZA ?zkZA ?zoZA ?wZA_true ?wZA_letter ?wZA_not ?wZA_and ?wZA_or ?wZA_next ?wZA_later ?wZA_until ?wZA_before ?wZA_earlier ?wZA_since ?z_isinstance ?z_str ?z_int ?z_list ?z_tuple ?z_dict ?z_len ?z_all ?z_any ?z_zip ?z_sorted ?z_abs ?z_range ?z_min ?z_repr ?z_bool ?z_enumerate ?z_max ?lT ?vT ?nT ?aS ?bS ?tS2 ?iS ?aG ?tG ?iG ?aW ?tW ?iW ?aM ?tM ?iM ?aY ?tY ?iY ?aI ?tI ?iI ?aN ?xN ?kkN ?bN ?tN ?sN ?iN ?gN ?hN ?dN ?ccN ?moN ?aF ?xF ?kkF ?bF ?tF ?sF ?iF ?gF ?hF ?dF ?ccF ?moF ?sp0 ?tk0 ?aX ?xX ?saX ?bX ?tX ?kX ?jX ?tfX ?lX ?cX ?kfX ?atX ?gX ?hX ?dX ?iX ?sX ?uNG ?vNG ?uFG ?vFG ?uFN ?vFN ?uFW ?vFW ?uFM ?vFM ?uFY ?vFY ?uFI ?vFI
    (case hrec => first | rfl | kernel_rfl)
    (case a0 => k_is)
    (case l0 => k_is)
    (case c0 => k_is)
    (case k0 => k_is)
    (case a1 => k_is)
    (case l1 => k_is)
    (case c1 => k_is)
    (case k1 => k_is)
    (case a2 => k_is)
    (case l2 => k_is)
    (case c2 => k_is)
    (case k2 => k_is)
    (case a3 => k_is)
    (case l3 => k_is)
    (case c3 => k_is)
    (case k3 => k_is)
    (case a4 => k_is)
    (case l4 => k_is)
    (case c4 => k_is)
    (case k4 => k_is)
    (case a5 => k_is)
    (case l5 => k_is)
    (case c5 => k_is)
    (case k5 => k_is)
    (case a6 => k_is)
    (case l6 => k_is)
    (case c6 => k_is)
    (case k6 => k_is)
    (case a7 => k_is)
    (case l7 => k_is)
    (case c7 => k_is)
    (case k7 => k_is)
    (case a8 => k_is)
    (case l8 => k_is)
    (case c8 => k_is)
    (case k8 => k_is)
    (case a9 => k_is)
    (case l9 => k_is)
    (case c9 => k_is)
    (case k9 => k_is)
    (case a10 => k_is)
    (case l10 => k_is)
    (case c10 => k_is)
    (case k10 => k_is)
    (case a11 => k_is)
    (case l11 => k_is)
    (case c11 => k_is)
    (case k11 => k_is)
    (case a12 => k_is)
    (case l12 => k_is)
    (case c12 => k_is)
    (case k12 => k_is)
    (case a13 => k_is)
    (case l13 => k_is)
    (case c13 => k_is)
    (case k13 => k_is)
    (case a14 => k_is)
    (case l14 => k_is)
    (case c14 => k_is)
    (case k14 => k_is)
    (case a15 => k_is)
    (case l15 => k_is)
    (case c15 => k_is)
    (case k15 => k_is)
    (case a16 => k_is)
    (case l16 => k_is)
    (case c16 => k_is)
    (case k16 => k_is)
    (case a17 => k_is)
    (case l17 => k_is)
    (case c17 => k_is)
    (case k17 => k_is)
    (case a18 => k_is)
    (case l18 => k_is)
    (case c18 => k_is)
    (case k18 => k_is)
    (case a19 => k_is)
    (case l19 => k_is)
    (case c19 => k_is)
    (case k19 => k_is)
    (case a20 => k_is)
    (case l20 => k_is)
    (case c20 => k_is)
    (case k20 => k_is)
    (case a21 => k_is)
    (case l21 => k_is)
    (case c21 => k_is)
    (case k21 => k_is)
    (case a22 => k_is)
    (case l22 => k_is)
    (case c22 => k_is)
    (case k22 => k_is)
    (case a23 => k_is)
    (case l23 => k_is)
    (case c23 => k_is)
    (case k23 => k_is)
    (case zs => k_is)
    (case zl => k_is)
    (case zt => k_is)
    (case za => k_is)
    (case zgZA => k_is)
    (case zlZA => k_is)
    (case zkZA => first | rfl | kernel_rfl)
    (case zoZA => first | rfl | decide)
    (case wZA_true => k_is)
    (case wZA_letter => k_is)
    (case wZA_not => k_is)
    (case wZA_and => k_is)
    (case wZA_or => k_is)
    (case wZA_next => k_is)
    (case wZA_later => k_is)
    (case wZA_until => k_is)
    (case wZA_before => k_is)
    (case wZA_earlier => k_is)
    (case wZA_since => k_is)
    (case z_isinstance => k_is)
    (case z_str => k_is)
    (case z_int => k_is)
    (case z_list => k_is)
    (case z_tuple => k_is)
    (case z_dict => k_is)
    (case z_len => k_is)
    (case z_all => k_is)
    (case z_any => k_is)
    (case z_zip => k_is)
    (case z_sorted => k_is)
    (case z_abs => k_is)
    (case z_range => k_is)
    (case z_min => k_is)
    (case z_repr => k_is)
    (case z_bool => k_is)
    (case z_enumerate => k_is)
    (case z_max => k_is)
    (case lT => k_is)
    (case vT => first | rfl | k_is)
    (case nT => first | kernel_rfl | rfl)
    (case aS => k_is)
    (case bS => k_is)
    (case tS2 => k_is)
    (case iS => k_is)
    (case aG => k_is)
    (case tG => k_is)
    (case iG => k_is)
    (case aW => k_is)
    (case tW => k_is)
    (case iW => k_is)
    (case aM => k_is)
    (case tM => k_is)
    (case iM => k_is)
    (case aY => k_is)
    (case tY => k_is)
    (case iY => k_is)
    (case aI => k_is)
    (case tI => k_is)
    (case iI => k_is)
    (case aN => k_is)
    (case xN => k_exc)
    (case kkN => k_is)
    (case bN => k_is)
    (case tN => k_is)
    (case sN => k_is)
    (case iN => k_is)
    (case gN => k_is)
    (case hN => k_is)
    (case dN => k_is)
    (case ccN => k_is)
    (case moN => k_is)
    (case aF => k_is)
    (case xF => k_exc)
    (case kkF => k_is)
    (case bF => k_is)
    (case tF => k_is)
    (case sF => k_is)
    (case iF => k_is)
    (case gF => k_is)
    (case hF => k_is)
    (case dF => k_is)
    (case ccF => k_is)
    (case moF => k_is)
    (case sp0 => k_is)
    (case tk0 => k_is)
    (case aX => k_is)
    (case xX => k_is)
    (case saX => k_is)
    (case bX => k_is)
    (case tX => k_is)
    (case kX => k_is)
    (case jX => k_is)
    (case tfX => k_is)
    (case lX => k_is)
    (case cX => k_is)
    (case kfX => k_is)
    (case atX => k_is)
    (case gX => k_is)
    (case hX => k_is)
    (case dX => k_is)
    (case iX => k_is)
    (case sX => first | rfl | k_is)
    (case uNG => k_is)
    (case vNG => decide)
    (case uFG => k_is)
    (case vFG => decide)
    (case uFN => k_is)
    (case vFN => decide)
    (case uFW => k_is)
    (case vFW => decide)
    (case uFM => k_is)
    (case vFM => decide)
    (case uFY => k_is)
    (case vFY => decide)
    (case uFI => k_is)
    (case vFI => decide)
