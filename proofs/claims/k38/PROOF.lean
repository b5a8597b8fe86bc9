import PyProof.Rows.All
import Wide.All
import OpenK.AllK
import Wide.FinOn
import HandS.ForMost
import HandS.Exc
import HandS.ExcOwn
import HandS.ExcIs
import HandS.IsInst
import HandS.Lambda
import HandS.EndTab
import HandS.SortKw
import HandS.Defaults
import HandS.TupLe
import HandS.WordsExc
import HandS.Wide
import KE.SortKeyHeap
import KE.KDictKeyed
import KE.KDictSum
import KE.GoesNew
import PyProof.ListStr
import HandS.Walk
import HandS.Steps
import HandS.Style
import KE.GoesEnum
import KE.GoesMore
import PyProof.StrBlock2
import PyProof.CallFns
import HandS.StrMore
import HandS.Set
import HandS.SetFor
import KE.SortData
import HandS.SetKeys
import HandS.TupLen
import KE.KeyNested
import HandS.TupSets
import KE.KUnpackStar
import HandS.Conv
import HandS.Nested
import KE.KDictDisplayH
import HandS.NamedTup0
import PySem.Challenge.RW_swinglogic_k38_whole_told_by_turns_or_no
import HandS.Deep
import HandS.Iter
set_option Elab.async false
set_option linter.all false
set_option maxRecDepth 100000
set_option maxHeartbeats 4000000
namespace SWL
open PySem PySem.Spec PyProof.Rows L2
/-! repr of data, list of a text -/
/-- what repr asks of data: the around has no guard in hand -/
def askRepr (K : PySem.W.Frag) : List V → Hp → VK → Prop := fun xs H Q =>
  ∃ (a : Addr) (d : PyData), xs = [.ref a] ∧ Dp K H (.ref a) d ∧ d.showable = true ∧ d.hasDict = false ∧ d.depth ≤ 50 ∧ d.shown.length ≤ sizeLine ∧ Q (.str d.shown) H
section
variable {X : Cx}
theorem cr_repr (gd : X.A.guards = some []) (hu : X.A.units + 64 < cLine) : CallR X (.builtin "repr") (askRepr X.K) := by
  intro pins s σ H xs us Q I rel q
  obtain ⟨a, d, rfl, hd, hs, hn, hdep, hlen, q⟩ := q
  obtain ⟨u, rfl, ru⟩ := vals1 rel
  obtain ⟨as, rd⟩ := Dp.reads I d _ _ hd ru
  cases ru
  refine repr_of_reads' rd hs (PyData.noDict_hsm hn) gd (by omega) (fun _ _ e => e) (fun h' u' tk hk => ?_) hlen
  exact ⟨.str d.shown, H, I.kept hk, ⟨u', rfl⟩, q⟩
def signsV (z : Str) : List V := z.cps.toList.map fun c => V.str ⟨#[c]⟩
theorem signs_vals (z : Str) : ∀ (l : List Nat) (vs : List Value), vs.length = l.length → (∀ (i : Nat) (v : Value), vs[i]? = some v → ∃ c t, l[i]? = some c ∧ v = .str ⟨#[c]⟩ t) → Vals (l.map fun c => V.str ⟨#[c]⟩) vs
  | [], [], _, _ => .nil
  | [], _ :: _, h, _ => by simp at h
  | _ :: _, [], h, _ => by simp at h
  | c :: l, v :: vs, h, hv => by
    obtain ⟨c', t, h1, h2⟩ := hv 0 v rfl
    have e : c = c' := Option.some.inj h1
    subst e
    exact .cons ⟨t, h2⟩ (signs_vals z l vs (by simpa using h) fun i w hw => hv (i + 1) w hw)
theorem cr_listStr (hc : X.calm = true) : CallR X (.type "list") (fun xs H Q => ∃ z, xs = [.str z] ∧ z.length ≤ sizeLine ∧ ∀ p, H p = none → Q (.ref p) (upd H p (.lst (signsV z)))) := by
  intro pins s σ H xs us Q I rel q
  obtain ⟨z, rfl, hz, q⟩ := q
  obtain ⟨u, rfl, t, rfl⟩ := vals1 rel
  refine call_list_str (I.ok.hd hc) z t (fun h' tk acc' c' hk hget hit => ?_) hz
  have hlen : acc'.toList.length = z.cps.toList.length := by
    rw [Array.length_toList, Array.length_toList]
    exact hit.1
  have hv : Vals (signsV z) acc'.toList := by
    refine signs_vals z _ _ hlen fun i v hv => ?_
    obtain ⟨c, t', h1, h2⟩ := hit.2 i v (by rw [← Array.getElem?_toList]; exact hv)
    exact ⟨c, t', by rw [Array.getElem?_toList]; exact h1, h2⟩
  refine ⟨.ref s.heap.objs.size, _, I.laid (t' := tk) hk (Nat.le_refl _) (show ObjOk X.prog X.w _ h' _ (.lst (signsV z)) from ⟨?_, acc'.toList, c', hv, ?_⟩), rfl, q _ (I.hok.fresh (Nat.le_refl _))⟩
  · unfold signsV
    rw [List.length_map, Array.length_toList]
    exact hz
  · rw [Array.toArray_toList]
    exact hget
end
end SWL
set_option Elab.async false
set_option linter.all false
set_option maxRecDepth 100000
set_option maxHeartbeats 4000000
namespace SWL
open PySem PySem.Spec PyProof.Rows L2
/-! zip of two texts -/
/-- the pairs of two texts' signs, a new tuple each -/
def PairsS (x y : Str) : It :=
  ⟨fun i _ => i < min x.cps.size y.cps.size,
    fun i H v H' => ∃ (T : Addr) (c d : Nat), v = .ref T ∧ H T = none ∧ H' = upd H T (.tup [.str ⟨#[c]⟩, .str ⟨#[d]⟩]) ∧ x.cps[i]? = some c ∧ y.cps[i]? = some d,
    fun i _ => i = min x.cps.size y.cps.size⟩
theorem turnZipS {P : Program} {w : World} {K : PySem.W.Frag} {elts : List Expr} {kk : Nat} {tp : Pos} {N : Addr} (x y : Str) (t u : Tok) :
    Turn P w K (.Tuple elts kk tp) (PairsS x y) [N + 4, N + 2, N + 3, N, N + 1] (N + 4)
      (fun i h => IsZip h (N + 4) (N + 2) (N + 3) .none ∧ IsTupOf2 h (N + 2) (.ref N) (.ref (N + 1)) ∧ (∃ a b, IsTupOf2 h (N + 3) a b) ∧ h.IsStrIter N (strIterType x) x t i ∧ h.IsStrIter (N + 1) (strIterType y) y u i) where
  mem := by simp
  obj := fun i h st b hb => by
    obtain ⟨z1, z2, ⟨_, _, z3⟩, ⟨o4, z4, _, d4⟩, ⟨o5, z5, _, d5⟩⟩ := st
    rcases (by simpa using hb : b = N + 4 ∨ b = N + 2 ∨ b = N + 3 ∨ b = N ∨ b = N + 1) with e | e | e | e | e
    · exact ⟨_, by rw [e]; exact z1, fun v q => by cases q⟩
    · exact ⟨_, by rw [e]; exact z2, fun v q => by cases q⟩
    · exact ⟨_, by rw [e]; exact z3, fun v q => by cases q⟩
    · exact ⟨o4, by rw [e]; exact z4, fun v q => by rw [d4] at q; cases q⟩
    · exact ⟨o5, by rw [e]; exact z5, fun v q => by rw [d5] at q; cases q⟩
  keep := fun i h h' st hk => by
    obtain ⟨z1, z2, ⟨a, b, z3⟩, z4, z5⟩ := st
    exact ⟨hk _ (by simp) _ z1, hk _ (by simp) _ z2, ⟨a, b, hk _ (by simp) _ z3⟩, let ⟨o, e, r⟩ := z4; ⟨o, hk _ (by simp) o e, r⟩, let ⟨o, e, r⟩ := z5; ⟨o, hk _ (by simp) o e, r⟩⟩
  item := by
    intro X hP hw hK hc i pins s σ H E I hf st hg
    subst hP hw hK
    have hh : X.A.handled = none := I.ok.hd hc
    have D1 := Draws.text (prog := X.prog) (w := X.w) (A := X.A.in1) hh N x t
    have D2 := Draws.text (prog := X.prog) (w := X.w) (A := X.A.in1) hh (N + 1) y u
    have S : ZipSep2 (N + 4) (N + 2) (N + 3) N (N + 1) [N] [N + 1] := zip_sep2 (fp1 := []) (fp2 := []) (fun _ h => nomatch h) (fun _ h => nomatch h)
    have G := GoesN.zip2 (elts := elts) (x1 := kk) (pos := tp) S D1 D2
    refine G.goes i s _ E hg st fun v h' tk hY st' hk _ => ?_
    obtain ⟨T, a, b, rfl, hT, ⟨c, t1, hc1, rfl⟩, ⟨d, t2, hd1, rfl⟩, hTup⟩ := hY
    have fr : H T = none := I.hok.fresh hT
    refine ⟨.ref T, upd H T (.tup [.str ⟨#[c]⟩, .str ⟨#[d]⟩]), I.turnedNew (t' := tk) (ch := [N + 4, N + 3, N, N + 1]) hk (fun b hb => hf b ?_) hT ?_, rfl, ⟨T, c, d, rfl, fr, rfl, hc1, hd1⟩, st', fun b hb => ?_⟩
    · rcases (by simpa using hb : b = N + 4 ∨ b = N + 3 ∨ b = N ∨ b = N + 1) with e | e | e | e <;> simp [e]
    · exact ⟨by show 2 ≤ sizeLine; decide, _, .cons ⟨_, rfl⟩ (.cons ⟨_, rfl⟩ .nil), hTup⟩
    · have hlt : b < s.heap.objs.size := by
        obtain ⟨z1, z2, ⟨_, _, z3⟩, ⟨o4, z4, _⟩, ⟨o5, z5, _⟩⟩ := st
        rcases (by simpa using hb : b = N + 4 ∨ b = N + 2 ∨ b = N + 3 ∨ b = N ∨ b = N + 1) with e | e | e | e | e
        · rw [e]; exact Heap.lt_size z1
        · rw [e]; exact Heap.lt_size z2
        · rw [e]; exact Heap.lt_size z3
        · rw [e]; exact Heap.lt_size z4
        · rw [e]; exact Heap.lt_size z5
      rw [upd_ne (Nat.ne_of_lt (Nat.lt_of_lt_of_le hlt hT))]
      exact (hf b hb).1
  done := by
    intro X hP hw hK hc i pins s σ H E I hf st hg
    subst hP hw hK
    have hh : X.A.handled = none := I.ok.hd hc
    have D1 := Draws.text (prog := X.prog) (w := X.w) (A := X.A.in1) hh N x t
    have D2 := Draws.text (prog := X.prog) (w := X.w) (A := X.A.in1) hh (N + 1) y u
    have S : ZipSep2 (N + 4) (N + 2) (N + 3) N (N + 1) [N] [N + 1] := zip_sep2 (fp1 := []) (fp2 := []) (fun _ h => nomatch h) (fun _ h => nomatch h)
    have G := GoesN.zip2 (elts := elts) (x1 := kk) (pos := tp) S D1 D2
    have hi : i = min x.cps.size y.cps.size := hg
    rw [hi] at st
    refine G.stops s _ E st fun h' tk hk _ => ?_
    refine I.turnedL (t' := tk) (ch := [N + 4, N + 3, N, N + 1]) hk fun b hb => hf b ?_
    rcases (by simpa using hb : b = N + 4 ∨ b = N + 3 ∨ b = N ∨ b = N + 1) with e | e | e | e <;> simp [e]
  self := fun A i s Q E st h => wpAny_pyIter_zip st.1 h
def iZipS (ta : TA) : TI := fun σ H R => ta σ H fun vs H1 => ∃ x y, vs = [.str x, .str y] ∧ R (PairsS x y) H1
theorem pi_zipS {X : Cx} {e e2 : Expr} {ta : TA} {p pos tpos : Pos} {elts : List Expr} {kk : Nat} (hg : Gl X "zip") (hm : X.mg "zip" = none) (ha : PA X [e, e2] ta)
    (hs : starEach [e, e2] X.env = (false, eval e X.env) :: starEach [e2] X.env := by rfl) (hpl : (backTo pos (starEach [e2] X.env)).any (·.1) = false := by rfl) :
    PI X (.Tuple elts kk tpos) (.Call (.Name "zip" p) [e, e2] [] pos) (iZipS ta) := by
  refine ⟨fun pins s σ H R I h => Call_ (ld_blt I hg hm boot_zip (callWith_type1 (thn (ha.run pos pins s σ H _ I h) fun us s1 q => ?_) hs hpl))⟩
  obtain ⟨vs, H1, I1, rel, x, y, rfl, q⟩ := q
  obtain ⟨u1, u2, rfl, ⟨t1, rfl⟩, ⟨t2, rfl⟩⟩ := vals2 rel
  refine zip_begins2 (begins_text x t1) (begins_text y t2) trivial trivial fun h' z1 z2 z3 z4 z5 hsz hk => wpAny_pyIter_zip z1 ?_
  refine ⟨_, _, _, _, H1, rfl, I1.kept (t' := s1.toks) hk, turnZipS (N := s1.heap.objs.size) x y t1 t2, ⟨z1, z2, ⟨_, _, z3⟩, ⟨_, z4, rfl, rfl⟩, ⟨_, z5, rfl, rfl⟩⟩, fun b hb => ?_, q⟩
  have hle : s1.heap.objs.size ≤ b := by
    rcases (by simpa using hb : b = s1.heap.objs.size + 4 ∨ b = s1.heap.objs.size + 2 ∨ b = s1.heap.objs.size + 3 ∨ b = s1.heap.objs.size ∨ b = s1.heap.objs.size + 1) with e | e | e | e | e <;> rw [e] <;> first | exact Nat.le_add_right _ _ | exact Nat.le_refl _
  exact I1.fpOk hle (I1.hok.fresh hle)
end SWL
set_option Elab.async false
set_option linter.all false
set_option maxRecDepth 100000
set_option maxHeartbeats 4000000
namespace SWL
open PySem PySem.Spec PyProof.Rows L2
/-! an object that nobody tracked is tracked from now on; data under growth; sorted by data -/
def Grows (H H' : Hp) : Prop := ∀ b o, H b = some o → H' b = some o
theorem Grows.refl (H : Hp) : Grows H H := fun _ _ h => h
theorem Grows.trans {H H1 H2 : Hp} (a : Grows H H1) (b : Grows H1 H2) : Grows H H2 := fun c o h => b c o (a c o h)
theorem Grows.new {H : Hp} {p : Addr} {o : HO} (h : H p = none) : Grows H (upd H p o) := fun b u e => by
  rw [upd_ne (ne_of_none e h)]
  exact e
theorem Grows.rd {H H' : Hp} (g : Grows H H') {a : Addr} {u : HO} (r : Rd H a u) : Rd H' a u := by
  rcases r with r | ⟨o, r⟩
  · exact .inl (g _ _ r)
  · exact .inr ⟨o, g _ _ r⟩
theorem Grows.l {K : PySem.W.Frag} {H H' : Hp} (g : Grows H H') {a : Addr} {xs : List V} (h : SqL K H a xs) : SqL K H' a xs := h.imp g.rd id
theorem Grows.t {K : PySem.W.Frag} {H H' : Hp} (g : Grows H H') {a : Addr} {xs : List V} (h : SqT K H a xs) : SqT K H' a xs := h.imp g.rd id
mutual
theorem Grows.dp {K : PySem.W.Frag} {H H' : Hp} (g : Grows H H') : ∀ (d : PyData) (v : V), Dp K H v d → Dp K H' v d
  | .none, _, h => by cases h; exact .non
  | .bool _, _, h => by cases h; exact .bl _
  | .int _, _, h => by cases h; exact .int _
  | .str _, _, h => by cases h; exact .str _
  | .list ds, _, h => by
    cases h with
    | lst h1 h2 => exact .lst (g.l h1) (Grows.dps g ds _ h2)
  | .tuple ds, _, h => by
    cases h with
    | tup h1 h2 => exact .tup (g.t h1) (Grows.dps g ds _ h2)
  | .dict _, _, h => by cases h
theorem Grows.dps {K : PySem.W.Frag} {H H' : Hp} (g : Grows H H') : ∀ (ds : List PyData) (vs : List V), DpAll K H vs ds → DpAll K H' vs ds
  | [], _, h => by cases h; exact .nil
  | d :: ds, _, h => by
    cases h with
    | cons h1 h2 => exact .cons (Grows.dp g d _ h1) (Grows.dps g ds _ h2)
end
section
variable {X : Cx} {pins : List (Addr × Obj)} {σ : L2.St} {H : Hp} {s : Shared}
theorem track {a : Addr} {o : HO} (I : Inv X pins σ H s) (f : FpOk X pins H a) (h0 : X.s_0.heap.objs.size ≤ a) (new : ObjOk X.prog X.w (upd H a o) s.heap a o) : Inv X pins σ (upd H a o) s := by
  obtain ⟨hn, hL, _, _, hc, hp⟩ := f
  have ne : ∀ b u, H b = some u → b ≠ a := fun b u e => ne_of_none e hn
  refine ⟨I.ok, I.os, I.bare, ⟨I.base.keep, I.base.slot, fun b u e n hx => ?_, I.base.there, fun b xs e => ?_, fun b u xs e => ?_, fun b ps e => ?_⟩, I.loc, I.cell, ?_, fun x c e => ?_, fun p hq => ?_, fun b u e => ?_, I.len⟩
  · rw [upd_ne (Nat.ne_of_lt (Nat.lt_of_lt_of_le (Heap.lt_size e) h0))]
    exact I.base.free b u e n hx
  · have q := I.base.tups b xs e
    rw [upd_ne (ne _ _ q)]
    exact q
  · have q := I.base.frzs b u xs e
    rw [upd_ne (ne _ _ q)]
    exact q
  · obtain ⟨m, q⟩ := I.base.tbls b ps e
    exact ⟨m, by rw [upd_ne (ne _ _ q)]; exact q⟩
  · rw [upd_ne hL.symm]
    exact I.free
  · rw [upd_ne (hc x c e)]
    exact I.freeC x c e
  · obtain ⟨q1, q2, q3⟩ := I.pin p hq
    exact ⟨q1, by rw [upd_ne (hp p hq)]; exact q2, q3⟩
  · by_cases hb : b = a
    · subst hb
      rw [upd_same] at e
      cases e
      exact new
    · rw [upd_ne hb] at e
      refine (I.hok b u e).stay (fun c v _ q => q) (fun c q => ?_) fun c xs q => ?_
      · rw [upd_ne (ne _ _ q)]
        exact q
      · rw [upd_ne (ne _ _ q)]
        exact q
/-- a place that is new to the state s is no frame's -/
theorem noFrame (I : Inv X pins σ H s) {b : Addr} (h : s.heap.objs.size ≤ b) : b ∉ frs X.stack := fun z => by
  rcases List.mem_cons.mp (I.stkSub b z) with e | e
  · have q := I.lt
    rw [← e] at q
    exact Nat.lt_irrefl _ (Nat.lt_of_lt_of_le q h)
  · exact I.nofs h e
theorem each_vals : ∀ {xs : List V} {us : List Value}, PySem.W.EachIs (fun u x => RelV x u) us xs → Vals xs us
  | _, _, .nil => .nil
  | _, _, .cons h t => .cons h (each_vals t)
theorem vals_each : ∀ {xs : List V} {us : List Value}, Vals xs us → PySem.W.EachIs (fun u x => RelV x u) us xs
  | _, _, .nil => .nil
  | _, _, .cons h t => .cons h (vals_each t)
end
/-- sorted(xs): the items read as data by k; what comes is THE sorted list -/
def askSorted (K : PySem.W.Frag) : List V → Hp → VK → Prop := fun xs H Q => ∃ (a : Addr) (items : List V) (k : V → PyData), xs = [.ref a] ∧ SqL K H a items ∧ (∀ x ∈ items, Dp K H x (k x)) ∧
  PySem.W.AllAlike (items.map k) ∧ PySem.W.Sortable (items.map k) ∧ (∀ x ∈ items, (k x).depth ≤ 50) ∧ ∀ p, H p = none → Q (.ref p) (upd H p (.lst (items.mergeSort (PySem.W.dataLe false k))))
theorem each_reads {X : Cx} {pins : List (Addr × Obj)} {σ : L2.St} {H : Hp} {s : Shared} (I : Inv X pins σ H s) (k : V → PyData) : ∀ {xs : List V} {us : List Value}, Vals xs us → (∀ x ∈ xs, Dp X.K H x (k x)) → PySem.W.EachIs (fun v x => ∃ as, Reads s.heap v (k x) as) us xs
  | _, _, .nil, _ => .nil
  | _, _, .cons h t, hd => .cons (Dp.reads I _ _ _ (hd _ List.mem_cons_self) h) (each_reads I k t fun x hx => hd x (List.mem_cons_of_mem _ hx))
section
variable {X : Cx}
theorem cr_sorted (hu : X.A.units + 64 < cLine) : CallR X (.builtin "sorted") (askSorted X.K) := by
  intro pins s σ H xs us Q I rel q
  obtain ⟨a, items, k, rfl, hs, hd, hal, hk, hdep, q⟩ := q
  obtain ⟨u, rfl, ru⟩ := vals1 rel
  cases ru
  obtain ⟨its, rv, hl, hz⟩ := I.list hs
  refine PySem.W.sorted_data (vs := its) (R := fun u x => RelV x u) (enc := k) (bs := items) hl.isList (vals_each rv) (each_reads I k rv hd) hal hk hz (fun x hx => ?_) fun out hlen ho => ?_
  · have := hdep x hx
    omega
  · obtain ⟨c, hc⟩ := sortedAll_at s.heap its out.toArray
    have hlen2 : (items.mergeSort (PySem.W.dataLe false k)).length ≤ sizeLine := by
      rw [List.length_mergeSort]
      exact hz
    exact ⟨.ref _, _, I.laid (t' := s.toks) (fun _ _ => sortedAll_old) (Nat.le_succ _) (show ObjOk X.prog X.w _ _ _ (.lst (items.mergeSort (PySem.W.dataLe false k))) from ⟨hlen2, out, c, each_vals ho, hc⟩), rfl, q _ (I.hok.fresh (Nat.le_succ _))⟩
end
end SWL
set_option Elab.async false
set_option linter.all false
set_option maxRecDepth 100000
set_option maxHeartbeats 4000000
namespace SWL
open PySem PySem.Spec PyProof.Rows L2 Calls
section
variable {prog : Program} {w : World} {A : Around} {s : Shared} {E : Value → Shared → Prop}
/-- sorted(xs, ..), xs a list or a tuple, is list.sort(..) of a new list -/
theorem collect_seq {T : String} (hT : T = "list" ∨ T = "tuple") {l : Addr} {vs : List Value} {o : Obj} {n : Nat} {Q : List Value → Shared → Prop} (ho : s.heap.get? l = some o) (hc : o.cls = .type T) (hd : o.data = .seq vs.toArray n)
    (hsz : vs.length ≤ sizeLine) (h : Q vs { s with heap := (s.heap.push (seqObj "list" #[] 0)).update s.heap.objs.size (Obj.mapSeq (· ++ vs.toArray)) }) : wpAny (model prog w) A (collect (.ref l)) Q E s := by
  have hnew : ∀ {h : Heap}, (h.push (seqObj "list" #[] 0)).get? h.objs.size = some (seqObj "list" #[] 0) := fun {h} => Heap.get?_push_size _ rfl
  have hold : (s.heap.push (seqObj "list" #[] 0)).get? l = some o := Heap.get?_push_of_some _ ho
  unfold collect
  refine wpAny_bind (wpAny_runValue (codeAny_builtin entry_proto_collect' (wpAny_bind (wpAny_newList (wpAny_pure ⟨Code.quiet_builtin _ (by decide +kernel), codeAny_builtin entry_list_iadd' ?_⟩)))))
  show wpAny _ _ (Builtin.List.listExtendWith (.ref s.heap.objs.size) (.ref l) (.ref s.heap.objs.size)) _ _ { s with heap := s.heap.push (seqObj "list" #[] 0) }
  unfold Builtin.List.listExtendWith
  refine wpAny_bind (wpAny_typeOf (T := T) ⟨o, hold, hc⟩ ?_)
  rw [if_pos (by rcases hT with e | e <;> subst e <;> first | rfl | decide | simp)]
  refine wpAny_bind (listItems_at hold hd (wpAny_bind (listItems_at (xs := #[]) (n := 0) hnew rfl ?_)))
  rw [if_neg (by simp)]
  refine wpAny_bind (listUpdate_at (xs := #[]) (n := 0) hnew rfl (wpAny_pure ?_) (Nat.zero_le _) (by show (#[] ++ vs.toArray).size ≤ sizeLine + 1; simp only [Array.size_append, List.size_toArray, List.length_nil]; omega))
  refine wpAny_bind (wpAny_load (get?_update_seq hnew _) ?_)
  have e : ((#[] : Array Value) ++ vs.toArray).toList = vs := by simp
  show wpAny _ _ (pure ((#[] : Array Value) ++ vs.toArray).toList) Q E _
  rw [e]
  exact wpAny_pure h
theorem sorted_of_seq {T : String} (hT : T = "list" ∨ T = "tuple") {l : Addr} {vs : List Value} {o : Obj} {n : Nat} {kw : List (Str × Value)} {Q : Value → Shared → Prop} (ho : s.heap.get? l = some o) (hc : o.cls = .type T) (hd : o.data = .seq vs.toArray n)
    (hL : vs.length ≤ sizeLine) (ha1 : argsOk "sorted" ⟨[.ref l], kw⟩) (ha2 : ∀ x, argsOk "list.sort" ⟨[.ref x], kw⟩)
    (body : ∀ E' : Value → Shared → Prop, wpAny (model prog w) A.in1.in1 (Builtin.«list.sort» ⟨[.ref (s.heap.objs.size + 1)], kw⟩) (fun f s' => f = .done (.ret .none) ∧ Q (.ref (s.heap.objs.size + 1)) s') E' { s with heap := PySem.W.copyHeap s.heap vs }) :
    wpAny (model prog w) A (call (.builtin "sorted") [.ref l] kw) Q E s := by
  refine call_function_entry_kw kind_sorted plain_sorted entry_sorted ha1 ?_
  unfold Builtin.«sorted»
  refine wpAny_bind (m := checkCount "sorted" 1 1 _) (wpAny_pure (wpAny_bind (collect_seq hT ho hc hd hL (wpAny_bind (wpAny_newList ?_ hL)))))
  have hs : ((s.heap.push (seqObj "list" #[] 0)).update s.heap.objs.size (Obj.mapSeq (· ++ vs.toArray))).objs.size = s.heap.objs.size + 1 := (Heap.size_update ..).trans (size_push' ..)
  show wpAny _ _ _ _ _ { s with heap := PySem.W.copyHeap s.heap vs }
  rw [hs]
  refine wpAny_bind (wpAny_holding (wpAny_call_entry_kw slot_list_sort ⟨_, PySem.W.copyHeap_at s.heap vs, rfl⟩ entry_list_sort ?_ (ha2 _)))
  refine wpAny_mono (body _) (fun f s' hf => ?_) fun _ _ e => e
  obtain ⟨rfl, hq⟩ := hf
  exact ⟨_, rfl, wpAny_pure ⟨_, rfl, hq⟩⟩
end
/-- a list or a tuple of xs -/
def Sq (K : PySem.W.Frag) (H : Hp) (a : Addr) (xs : List V) : Prop := SqL K H a xs ∨ SqT K H a xs
theorem isq {X : Cx} {pins : List (Addr × Obj)} {σ : L2.St} {H : Hp} {s : Shared} {a : Addr} {xs : List V} (I : Inv X pins σ H s) (h : Sq X.K H a xs) : ∃ (vs : List Value) (T : String) (o : Obj) (n : Nat), Vals xs vs ∧ (T = "list" ∨ T = "tuple") ∧ s.heap.get? a = some o ∧ o.cls = .type T ∧ o.data = .seq vs.toArray n ∧ xs.length ≤ sizeLine := by
  rcases h with h | h
  · obtain ⟨its, r, ⟨o, n, e, c, _, d⟩, z⟩ := I.list h
    exact ⟨its, "list", o, n, r, .inl rfl, e, c, d, z⟩
  · obtain ⟨its, r, ⟨o, e, c, n, d⟩, z⟩ := I.tuple h
    exact ⟨its, "tuple", o, n, r, .inr rfl, e, c, d, z⟩
theorem Grows.sq {K : PySem.W.Frag} {H H' : Hp} (g : Grows H H') {a : Addr} {xs : List V} (h : Sq K H a xs) : Sq K H' a xs := h.imp g.l g.t
end SWL
set_option Elab.async false
set_option linter.all false
set_option maxRecDepth 100000
set_option maxHeartbeats 4000000
namespace SWL
open PySem PySem.Spec PyProof.Rows L2
/-! sorted(xs, key=f), f a def of the text that raises nothing -/
def askSortedKey (K : PySem.W.Frag) (sp : Sp) (f : Addr) : List V → List V → Hp → VK → Prop := fun xs zs H Q => ∃ (a : Addr) (items : List V) (k : V → PyData), xs = [.ref a] ∧ zs = [.ref f] ∧ Sq K H a items ∧
  (∀ x ∈ items, ∀ H1, Grows H H1 → sp [x] H1 (fun v H2 => Grows H1 H2 ∧ Dp K H2 v (k x)) E0) ∧
  PySem.W.AllAlike (items.map k) ∧ PySem.W.Sortable (items.map k) ∧ (∀ x ∈ items, (k x).depth ≤ 50) ∧ ∀ H1 p, Grows H H1 → H1 p = none → Q (.ref p) (upd H1 p (.lst (items.mergeSort (PySem.W.dataLe false k))))
section
variable {X : Cx} {pins : List (Addr × Obj)} {σ : L2.St} {H : Hp} {s : Shared}
/-- one call from within two built-in calls: what stood untracked and is no frame's stands -/
theorem callIn {k : Nat} {f : Addr} {fd : FuncData} {ps : Str} {sp : Sp} {Q : VK} {x : V} {u : Value} {A : Around} {E : Value → Shared → Prop} {R : Value → Shared → Prop} (F : FnOk X.prog X.w X.K X.mg X.base CX0 k f fd [ps] sp) (hb : Binds X.K fd [ps] []) (hr : Room k A) (hA : A.frames = X.A.frames)
    (I : Inv X pins σ H s) (rx : RelV x u) (h : sp [x] H Q E0)
    (hR : ∀ (v : V) (w : Value) (H' : Hp) (s' : Shared), Inv X pins σ H' s' → RelV v w → Q v H' → (∀ b o, s.heap.get? b = some o → H b = none → b ∉ frs X.stack → s'.heap.get? b = some o ∧ H' b = none) → R w s') :
    wpAny (model X.prog X.w) A (call (.ref f) [u]) R E s := by
  have e1 := I.env0
  have e0 : Env0 X.prog X.w X.K X.mg X.base A X.stack s H := ⟨by rw [hA]; exact e1.frames, e1.mod, e1.bs, e1.bsz, e1.funs, e1.frf, e1.hok, e1.bare⟩
  refine wpAny_call (codeAny_mono (F.run A X.stack s H ⟨[u], []⟩ [u] [x] Q E0 hr e0 (hb s [u] I.kIn rfl) (.cons rx .nil) h) fun r s' hq => ?_)
  cases r with
  | error e => exact False.elim hq
  | ok fl =>
    cases fl with
    | next => exact False.elim hq
    | brk => exact False.elim hq
    | cont => exact False.elim hq
    | ret w =>
      obtain ⟨v, H', os, bare, un, hok, rv, q⟩ := hq
      obtain ⟨v2, H2, J, rv2, e1, e2⟩ := I.after (Q := fun v2 H2 => v2 = v ∧ H2 = H') ⟨v, H', os, bare, un, hok, rv, rfl, rfl⟩
      subst e1 e2
      exact hR _ _ _ _ J rv q fun b o e n nf => ⟨un.keep b o e n nf (by simp), un.free b o e n (by simp)⟩
theorem each_dp {K : PySem.W.Frag} {k : V → PyData} {H H' : Hp} (g : Grows H H') {us : List Value} {xs : List V} (h : PySem.W.EachIs (fun v x => ∃ y, RelV y v ∧ Dp K H y (k x)) us xs) : PySem.W.EachIs (fun v x => ∃ y, RelV y v ∧ Dp K H' y (k x)) us xs :=
  h.mono fun v x ⟨y, r, d⟩ => ⟨y, r, g.dp _ _ d⟩
theorem each_last {α β : Type} {R : α → β → Prop} {a : α} {b : β} (h : R a b) : ∀ {as : List α} {bs : List β}, PySem.W.EachIs R as bs → PySem.W.EachIs R (as ++ [a]) (bs ++ [b])
  | _, _, .nil => .cons h .nil
  | _, _, .cons q t => .cons q (each_last h t)
theorem crk_sortedKey {k : Nat} {f : Addr} {fd : FuncData} {ps : Str} {sp : Sp} (F : FnOk X.prog X.w X.K X.mg X.base CX0 k f fd [ps] sp) (hb : Binds X.K fd [ps] []) (hr : Room (k + 2) X.A) : CallRK X (.builtin "sorted") [Str.ofString "key"] (askSortedKey X.K sp f) := by
  intro pins s σ H xs zs us ws Q I rel relz q
  obtain ⟨a0, items, kf, rfl, rfl, hs, hsp, hal, hk, hdep, q⟩ := q
  obtain ⟨u, rfl, ru⟩ := vals1 rel
  obtain ⟨wf, rfl, rw_⟩ := vals1 relz
  cases ru
  cases rw_
  obtain ⟨vs, T, o, n, rv, hT, hget, hcl, hdt, hz⟩ := isq I hs
  have hvl : vs.length = items.length := rv.length.symm
  have hzv : vs.length ≤ sizeLine := by rw [hvl]; exact hz
  have hunits : X.A.units + 16 * (k + 2) + 200 < cLine := hr.un
  show wpAny _ _ (call (.builtin "sorted") [.ref a0] [(Str.ofString "key", .ref f)]) _ _ _
  refine sorted_of_seq hT hget hcl hdt hzv (ksk_s1 _ _) (fun _ => ksk_l1 _ _) fun E' => ?_
  rw [ksk_t1]
  generalize hA : s.heap.objs.size + 1 = a
  have I0 : Inv X pins σ H { s with heap := PySem.W.copyHeap s.heap vs } := I.kept (t' := s.toks) fun b o e => PySem.W.copyHeap_old e
  have ha : (PySem.W.copyHeap s.heap vs).get? a = some (seqObj "list" vs.toArray 0) := by rw [← hA]; exact PySem.W.copyHeap_at s.heap vs
  obtain ⟨e1, ha1⟩ : ∃ e1, ((PySem.W.copyHeap s.heap vs).update a (Obj.mapSeq fun _ => (#[] : Array Value))).get? a = some (seqObj "list" #[] e1) := ⟨_, get?_update_seq ha fun _ => #[]⟩
  have szS : s.heap.objs.size ≤ a := by rw [← hA]; exact Nat.le_succ _
  unfold ksk_tree
  refine wpAny_bind (listItems_at ha rfl ?_)
  refine wpAny_bind (listUpdate_at ha rfl ?_ (by rw [List.size_toArray]; exact hzv) (Nat.zero_le _))
  refine wpAny_bind (seqEpoch_at ha1 rfl ?_)
  refine wpAny_bind (wpAny_newTuple ?_ (by show vs.length ≤ _; exact hzv))
  refine wpAny_bind (wpAny_newList ?_ (Nat.zero_le _))
  refine wpAny_holding ?_
  generalize hh3 : (((PySem.W.copyHeap s.heap vs).update a (Obj.mapSeq fun _ => (#[] : Array Value))).push (seqObj "tuple" vs.toArray 0)) = h2
  generalize hkS : h2.objs.size = kS
  have keep : ∀ b o, s.heap.get? b = some o → (h2.push (seqObj "list" #[] 0)).get? b = some o := fun b o e => by
    have q := PySem.W.sorting_copy_old (vs := vs) e
    unfold PySem.W.sortingHeap at q
    rw [hA, hh3] at q
    exact q
  have hkS3 : (h2.push (seqObj "list" #[] 0)).get? kS = some (seqObj "list" #[] 0) := by rw [← hkS]; exact Heap.get?_push_size _ rfl
  have ha3 : (h2.push (seqObj "list" #[] 0)).get? a = some (seqObj "list" #[] e1) := by
    refine Heap.get?_push_of_some _ ?_
    rw [← hh3]
    exact Heap.get?_push_of_some _ ha1
  have hkSa : a < kS := by
    rw [← hkS, ← hh3, size_push', Heap.size_update]
    exact Nat.lt_succ_of_lt (Heap.lt_size ha)
  have szK : s.heap.objs.size ≤ kS := Nat.le_trans szS (Nat.le_of_lt hkSa)
  have I3 : Inv X pins σ H { s with heap := h2.push (seqObj "list" #[] 0) } := I.kept (t' := s.toks) keep
  have fpK : ∀ {H' : Hp}, H' kS = none → FpOk X pins H' kS := fun n => I.fpOk szK n
  have fpA : ∀ {H' : Hp}, H' a = none → FpOk X pins H' a := fun n => I.fpOk szS n
  have nfK := noFrame I szK
  have nfA := noFrame I szS
  show wpAny _ X.A.in1.in1 (ksk_rest a (.ref f) false vs.toArray e1 (.ref kS)) _ _ _
  unfold ksk_rest
  refine wpAny_bind (wpAny_rule ?_)
  first
    | rw [List.forIn_toArray]
    | (rw [← Array.forIn_toList]; simp only [List.toList_toArray])
  refine wpAny_bind (ksk_fold (fun i s' => ∃ (Hc : Hp) (kA : Array Value) (e : Nat), Inv X pins σ Hc s' ∧ Grows H Hc ∧ s'.heap.get? kS = some (seqObj "list" kA e) ∧ s'.heap.get? a = some (seqObj "list" #[] e1) ∧ Hc kS = none ∧ Hc a = none ∧
    PySem.W.EachIs (fun v x => ∃ y, RelV y v ∧ Dp X.K Hc y (kf x)) kA.toList (items.take i)) vs 0 _ ⟨H, #[], 0, I3, .refl H, hkS3, ha3, I.hok.fresh szK, I.hok.fresh szS, by rw [List.take_zero]; exact .nil⟩ ?step ?done)
  case step =>
    rintro j v s' hx ⟨Hc, kA, e, J, g, nk, na, fk, fa, hE⟩
    simp only [Nat.zero_add] at hE ⊢
    have hj : j < items.length := by
      rw [← hvl]
      exact (List.getElem?_eq_some_iff.mp hx).1
    have hxi : items[j]? = some items[j] := List.getElem?_eq_getElem hj
    obtain ⟨v', hv', rx⟩ := rv.get hxi
    rw [hx] at hv'
    cases hv'
    have hsz : kA.size ≤ vs.length := by
      have h1 := hE.length
      rw [Array.length_toList, List.length_take] at h1
      omega
    refine wpAny_bind (wpAny_attempt ?_)
    refine callIn (A := X.A.in1.in1) F hb ((hr.in1).in1) rfl J rx (hsp _ (List.getElem_mem hj) Hc g) fun y w H' s2 J2 ry hy hkeep => ?_
    obtain ⟨g2, hd⟩ := hy
    obtain ⟨nk2, fk2⟩ := hkeep kS _ nk fk nfK
    obtain ⟨na2, fa2⟩ := hkeep a _ na fa nfA
    try dsimp only
    have s1 := Heap.SameBut.update s2.heap kS (Obj.mapSeq (·.push w))
    obtain ⟨c2, hc2⟩ : ∃ c2, (s2.heap.update kS (Obj.mapSeq (·.push w))).get? kS = some (seqObj "list" (kA.push w) c2) := ⟨_, get?_update_seq nk2 (·.push w)⟩
    refine wpAny_bind (listUpdate_at nk2 rfl ?_ (Nat.le_trans hsz hzv) (Nat.le_trans (Nat.le_of_eq (Array.size_push ..)) (Nat.succ_le_succ (Nat.le_trans hsz hzv))))
    have J3 : Inv X pins σ H' { s2 with heap := s2.heap.update kS (Obj.mapSeq (·.push w)) } := by
      obtain ⟨z1, z2, _, z3, z4, z5⟩ := fpK fk2
      exact J2.turned (t' := s2.toks) (it := kS) (fun b o hb e => (s1.2 b hb).trans e) z1 z2 z3 z4 z5
    refine wpAny_pure ⟨rfl, H', kA.push w, c2, J3, g.trans g2, hc2, (s1.2 a (Nat.ne_of_lt hkSa)).trans na2, fk2, fa2, ?_⟩
    have ek : items.take (j + 1) = items.take j ++ [items[j]] := by rw [List.take_add_one, hxi]; rfl
    rw [ek, Array.toList_push]
    exact each_last ⟨y, ry, hd⟩ (each_dp g2 hE)
  case done =>
    rintro s' ⟨Hc, kA, e, J, g, nk, na, fk, fa, hE⟩
    have et : items.take (0 + vs.length) = items := List.take_of_length_le (by omega)
    rw [et] at hE
    have hsz : kA.size = vs.length := by
      have h1 := hE.length
      rw [Array.length_toList] at h1
      omega
    try dsimp only
    refine wpAny_bind (listItems_at nk rfl ?_)
    have hE2 : PySem.W.EachIs (fun v d => ∃ as, Reads s'.heap v d as) kA.toList (items.map kf) := PySem.W.each_map kf (hE.mono fun v x ⟨y, r, d⟩ => Dp.reads J _ _ _ d r)
    have hkp : PySem.W.KeepsBut a (PySem.W.hideAll s'.heap [kS]) s'.heap := fun b o _ e => PySem.W.of_hideAll _ e
    refine PySem.W.keyH_end (κ := PySem.W.dataKind s'.heap (items.map kf)) (h₁ := PySem.W.hideAll s'.heap [kS]) hkp (PySem.W.hideAll_none _ (by simp)) nk na (Nat.ne_of_gt hkSa)
      (PySem.W.SortsAt.data (s := s') hE2 hal hk (fun d hd => ?_)) hsz hzv fun h3 tk3 c k3 n3 => ⟨rfl, ?_⟩
    · obtain ⟨x, hx, rfl⟩ := List.mem_map.mp hd
      have := hdep x hx
      show X.A.units + 1 + 1 + _ < _
      omega
    · have ko : PySem.W.KeyedOut false (items.map kf) vs (PySem.W.sortVals (PySem.W.dataKind s'.heap (items.map kf)) false kA.toList vs) := ⟨s'.heap, kA.toList, hal, rfl, hE2⟩
      have ho := PySem.W.keyedOut_each kf ko (vals_each rv)
      have J3 : Inv X pins σ Hc { s' with heap := h3, toks := tk3 } := J.turnedL (t' := tk3) (ch := [a, kS]) (fun b o hb e => by
        rw [List.mem_cons, List.mem_singleton, not_or] at hb
        exact k3 b o hb.1 (PySem.W.hideAll_get _ e (by simpa using hb.2))) (fun b hb => by
        rcases (by simpa using hb : b = a ∨ b = kS) with z | z
        · rw [z]; exact fpA fa
        · rw [z]; exact fpK fk)
      have hlen2 : (items.mergeSort (PySem.W.dataLe false kf)).length ≤ sizeLine := by
        rw [List.length_mergeSort]
        exact hz
      exact ⟨.ref a, upd Hc a (.lst (items.mergeSort (PySem.W.dataLe false kf))), track J3 (fpA fa) (Nat.le_trans I.sz szS) ⟨hlen2, _, c, each_vals ho, n3⟩, rfl, q Hc a g fa⟩
end
end SWL
set_option Elab.async false
set_option linter.all false
set_option maxRecDepth 100000
set_option maxHeartbeats 4000000
namespace SWL
open PySem PySem.Spec PyProof.Rows L2
/-! sorted(dict(pairs)), the pairs' keys tuples of numbers and texts -/
def encK : Key → PyData
  | .inl i => .int i
  | .inr z => .str z
def encT (k : List Key) : PyData := .tuple (k.map encK)
def oneMore (acc : List (List Key)) (k : List Key) : List (List Key) := if acc.any (fun z => decide (z = k)) = true then acc else acc ++ [k]
def firsts (ks : List (List Key)) : List (List Key) := ks.foldl oneMore []
theorem atKey_isSome (k : List Key) : ∀ xs : List (List Key × Addr × Value), (atKey xs k).isSome = (xs.map (·.1)).any (fun z => decide (z = k))
  | [] => rfl
  | x :: xs => by
    have ih := atKey_isSome k xs
    unfold atKey at ih ⊢
    by_cases h : x.1 = k
    · simp [h]
    · simp only [List.find?_cons, h, decide_false, List.map_cons, List.any_cons, Bool.false_or]
      exact ih
theorem storedH_keys (xs : List (List Key × Addr × Value)) (k : List Key) (a : Addr) (v : Value) : (storedH xs k a v).map (·.1) = oneMore (xs.map (·.1)) k := by
  unfold storedH oneMore
  rw [atKey_isSome]
  split
  · rw [List.map_map]
    refine List.map_congr_left fun x _ => ?_
    simp only [Function.comp, putAt]
    split <;> rfl
  · rw [List.map_append]
    rfl
theorem storedAll_keys (ps : List (List Key × Addr × Value)) : (storedAllH [] ps).map (·.1) = firsts (ps.map (·.1)) := by
  have gen : ∀ (ps xs : List (List Key × Addr × Value)), (storedAllH xs ps).map (·.1) = (ps.map (·.1)).foldl oneMore (xs.map (·.1)) := by
    intro ps
    induction ps with
    | nil => intro xs; rfl
    | cons p ps ih =>
      intro xs
      show (storedAllH (storedH xs p.1 p.2.1 p.2.2) ps).map (·.1) = _
      rw [ih, storedH_keys]
      rfl
  exact gen ps []
/-- an item of the list: the pair's place, the key's place, the key, the value -/
structure PairIn where
  at_ : Addr
  key_at : Addr
  key : List Key
  val : V
def PairIn.ok (H : Hp) (p : PairIn) : Prop := H p.at_ = some (.tup [.ref p.key_at, p.val]) ∧ H p.key_at = some (.tup (p.key.map kV))
def askSortedDict (K : PySem.W.Frag) : V → Hp → VK → Prop := fun v H Q => ∃ (a : Addr) (ps : List PairIn), v = .ref a ∧ H a = some (.lst (ps.map fun p => .ref p.at_)) ∧ (∀ p ∈ ps, p.ok H) ∧
  PySem.W.AllAlike ((firsts (ps.map (·.key))).map encT) ∧ (∀ p ∈ ps, p.key ≠ []) ∧
  ∀ (out : List (Addr × List Key)), (∀ q ∈ out, H q.1 = some (.tup (q.2.map kV))) → out.map (·.2) = (firsts (ps.map (·.key))).mergeSort (PySem.W.dataLe false encT) → ∀ p, H p = none → Q (.ref p) (upd H p (.lst (out.map fun q => .ref q.1)))
theorem items_of {P : Program} {w : World} : ∀ (ks : List Key) (us : List Value), Vals (ks.map kV) us → ItemsAre (mixKind P w) ks us
  | [], _, h => by cases h; exact .nil
  | k :: ks, _, h => by
    cases h with
    | cons h1 h2 =>
      refine .cons ?_ (items_of ks _ h2)
      cases k with
      | inl i =>
        obtain ⟨t, rfl⟩ := h1
        exact keyIs_int i t
      | inr z =>
        obtain ⟨t, rfl⟩ := h1
        exact keyIs_str z t
theorem vals_of_items {P : Program} {w : World} {h : Heap} : ∀ (ks : List Key) (us : List Value), ItemsAre (mixKind P w) ks us → ReadsAll h us (ks.map encK) []
  | [], _, q => by cases q; exact .nil
  | k :: ks, _, q => by
    cases q with
    | cons h1 h2 =>
      rcases keyIs_shape h1 with ⟨i, t, rfl, rfl⟩ | ⟨z, t, rfl, rfl⟩
      · exact .cons (as := []) (bs := []) (.int i t) (vals_of_items ks _ h2)
      · exact .cons (as := []) (bs := []) (.str z t) (vals_of_items ks _ h2)
end SWL
set_option Elab.async false
set_option linter.all false
set_option maxRecDepth 100000
set_option maxHeartbeats 4000000
namespace SWL
open PySem PySem.Spec PyProof.Rows L2
section
variable {X : Cx} {pins : List (Addr × Obj)} {σ : L2.St} {H : Hp} {s : Shared}
/-- the pairs as the machine has them -/
theorem pairs_there (I : Inv X pins σ H s) : ∀ (ps : List PairIn), (∀ p ∈ ps, p.ok H) → ∃ xs : List (List Key × Addr × Value), xs.length = ps.length ∧
    ∀ (j : Nat) (p : PairIn), ps[j]? = some p → ∃ v, xs[j]? = some (p.key, p.key_at, v) ∧ PairAt s.heap p.at_ (.ref p.key_at) v ∧ IsTupleKey (mixKind X.prog X.w) s.heap p.key p.key_at
  | [], _ => ⟨[], rfl, fun j p h => by simp at h⟩
  | p :: ps, h => by
    obtain ⟨xs, hl, hx⟩ := pairs_there I ps fun q hq => h q (List.mem_cons_of_mem _ hq)
    obtain ⟨h1, h2⟩ := h p List.mem_cons_self
    obtain ⟨_, its, r1, t1⟩ := (show ObjOk X.prog X.w H s.heap p.at_ (.tup [.ref p.key_at, p.val]) from I.hok _ _ h1)
    obtain ⟨_, its2, r2, t2⟩ := (show ObjOk X.prog X.w H s.heap p.key_at (.tup (p.key.map kV)) from I.hok _ _ h2)
    obtain ⟨u1, u2, rfl, rr1, rr2⟩ := vals2 r1
    cases rr1
    refine ⟨(p.key, p.key_at, u2) :: xs, by simp [hl], fun j q hq => ?_⟩
    cases j with
    | zero =>
      have e : p = q := Option.some.inj hq
      subst e
      obtain ⟨o2, g1, g2, n2, g3⟩ := t2
      exact ⟨u2, rfl, .inl t1, ⟨o2, its2.toArray, n2, g1, g2, g3, items_of _ _ r2⟩⟩
    | succ j => exact hx j q hq
theorem tup_reads {P : Program} {w : World} {h : Heap} {k : List Key} {a : Addr} (x : IsTupleKey (mixKind P w) h k a) : Reads h (.ref a) (encT k) [] := by
  obtain ⟨o, its, n, h1, h2, h3, h4⟩ := x
  exact .tuple h1 h2 h3 (vals_of_items _ _ h4)
theorem storedH_mem {xs : List (List Key × Addr × Value)} {k : List Key} {a : Addr} {v : Value} {y : List Key × Addr × Value} (h : y ∈ storedH xs k a v) : (∃ z ∈ xs, z.1 = y.1 ∧ z.2.1 = y.2.1) ∨ (y.1 = k ∧ y.2.1 = a) := by
  unfold storedH at h
  split at h
  · obtain ⟨z, hz, rfl⟩ := List.mem_map.mp h
    refine .inl ⟨z, hz, ?_⟩
    simp only [putAt]
    split <;> exact ⟨rfl, rfl⟩
  · rcases List.mem_append.mp h with q | q
    · exact .inl ⟨y, q, rfl, rfl⟩
    · have e := List.mem_singleton.mp q
      subst e
      exact .inr ⟨rfl, rfl⟩
theorem storedAll_mem : ∀ (ps xs : List (List Key × Addr × Value)) {y : List Key × Addr × Value}, y ∈ storedAllH xs ps → (∃ z ∈ xs, z.1 = y.1 ∧ z.2.1 = y.2.1) ∨ ∃ z ∈ ps, z.1 = y.1 ∧ z.2.1 = y.2.1
  | [], xs, y, h => .inl ⟨y, h, rfl, rfl⟩
  | p :: ps, xs, y, h => by
    rcases storedAll_mem ps (storedH xs p.1 p.2.1 p.2.2) h with ⟨z, hz, e1, e2⟩ | ⟨z, hz, e1, e2⟩
    · rcases storedH_mem hz with ⟨w, hw, f1, f2⟩ | ⟨f1, f2⟩
      · exact .inl ⟨w, hw, f1.trans e1, f2.trans e2⟩
      · exact .inr ⟨p, List.mem_cons_self, f1.symm.trans e1, f2.symm.trans e2⟩
    · exact .inr ⟨z, List.mem_cons_of_mem _ hz, e1, e2⟩
theorem each_toList {xs : List (List Key × Addr × Value)} {acc : Array Value} (hs : acc.size = xs.length) (h : ∀ (i : Nat) (v : Value), acc[i]? = some v → ∃ y, xs[i]? = some y ∧ v = Value.ref y.2.1) : PySem.W.EachIs (fun v (y : List Key × Addr × Value) => v = Value.ref y.2.1) acc.toList xs := by
  refine PySem.W.EachIs.of_zip (by rw [Array.length_toList]; exact hs) fun p hp => ?_
  obtain ⟨i, hi⟩ := List.getElem?_of_mem hp
  rw [List.getElem?_zip_eq_some] at hi
  obtain ⟨y, hy, e⟩ := h i p.1 (by rw [← Array.getElem?_toList]; exact hi.1)
  rw [hi.2] at hy
  cases hy
  exact e
theorem each_refs : ∀ {us : List Value} {ys : List (List Key × Addr × Value)}, PySem.W.EachIs (fun v (y : List Key × Addr × Value) => v = Value.ref y.2.1) us ys → Vals (ys.map fun y => V.ref y.2.1) us
  | _, _, .nil => .nil
  | _, _, .cons h t => by
    subst h
    exact .cons rfl (each_refs t)
/-- sorted(d), d a dict (untracked) whose keys are tuples of the written kinds -/
theorem sorted_dictH {d : Addr} {xs : List (List Key × Addr × Value)} {Q : VK} (hc : X.calm = true) (hu : X.A.units + 64 < cLine) (I : Inv X pins σ H s) (lo : (d == sysModules) = false) (hd : s.heap.DictOfH (tupleKind (mixKind X.prog X.w)) d xs) (hz : xs.length ≤ sizeLine)
    (hal : PySem.W.AllAlike ((xs.map (·.1)).map encT)) (hne : ∀ x ∈ xs, x.1 ≠ [])
    (q : ∀ ys : List (List Key × Addr × Value), ys = xs.mergeSort (PySem.W.dataLe false fun y => encT y.1) → ∀ p, H p = none → Q (.ref p) (upd H p (.lst (ys.map fun y => V.ref y.2.1)))) :
    wpAny (model X.prog X.w) X.A (call (.builtin "sorted") [.ref d]) (EP X pins σ Q) X.xe s := by
  have hh := I.ok.hd hc
  obtain ⟨es, ep, hr, hsz, hent⟩ := hd.raw
  have e0 : es.size ≤ sizeLine := by rw [hsz]; exact hz
  refine Calls.call_function_entry kind_sorted plain_sorted entry_sorted (args_sorted1 _) ?_
  unfold Builtin.«sorted»
  refine wpAny_bind (m := checkCount "sorted" 1 1 _) (wpAny_pure ?_)
  refine wpAny_bind (PySem.W.kdu_collect (A := X.A.in1) (KdlSrc.rawDict lo) hh hr e0 fun h' tk acc hk hacc => ?_)
  have hal2 : acc.size = xs.length := by rw [hacc.1, hsz]
  have hE : PySem.W.EachIs (fun v (y : List Key × Addr × Value) => v = Value.ref y.2.1) acc.toList xs := each_toList hal2 fun i v hv => by
    obtain ⟨hi, e⟩ := hacc.2 i v hv
    obtain ⟨y, hy, e2, _, _⟩ := hent i hi
    exact ⟨y, hy, e.trans e2⟩
  have I1 : Inv X pins σ H { s with heap := h', toks := tk } := I.kept hk
  have hzl : acc.toList.length ≤ sizeLine := by rw [Array.length_toList, hal2]; exact hz
  refine wpAny_bind (wpAny_newList ?_ hzl)
  have hoL : (h'.push (seqObj "list" acc.toList.toArray 0)).get? h'.objs.size = some (seqObj "list" acc.toList.toArray 0) := Heap.get?_push_size _ rfl
  have kp : ∀ b o, s.heap.get? b = some o → (h'.push (seqObj "list" acc.toList.toArray 0)).get? b = some o := fun b o e => Heap.get?_push_of_some _ (hk b o e)
  show wpAny _ _ _ _ _ { s with heap := h'.push (seqObj "list" acc.toList.toArray 0), toks := tk }
  obtain ⟨_, _, _, _, _, _, _, his, _⟩ := id hd
  have hR : PySem.W.EachIs (fun v (y : List Key × Addr × Value) => ∃ as, Reads (h'.push (seqObj "list" acc.toList.toArray 0)) v (encT y.1) as ∧ h'.objs.size ∉ as) acc.toList xs := by
    refine (PySem.W.each_mem hE).mono fun v y ⟨e, hy⟩ => ⟨[], ?_, by simp⟩
    subst e
    exact PyProof.Rows.Reads.keeps kp (tup_reads (his y hy))
  refine wpAny_bind (wpAny_holding ?_)
  refine PySem.W.list_sort_data (s := { s with heap := h'.push (seqObj "list" acc.toList.toArray 0), toks := tk }) (enc := fun y : List Key × Addr × Value => encT y.1) (bs := xs) hoL hE hR (by rw [List.map_map] at hal; exact hal) (.inl fun dd hdd => ?_) hz (fun y _ => ?_) fun out hlen ho => ?_
  · obtain ⟨y, hy, rfl⟩ := List.mem_map.mp hdd
    cases e : y.1 with
    | nil => exact absurd e (hne y hy)
    | cons k r => exact ⟨encK k, r.map encK, rfl⟩
  · have hdep : (encT y.1).depth = 1 := by
      have z : ∀ l : List Key, PyData.depthAll (l.map encK) = 0 := by
        intro l
        induction l with
        | nil => rfl
        | cons k r ih =>
          show PyData.depthAll (encK k :: r.map encK) = 0
          rw [PyData.depthAll, ih]
          cases k <;> rfl
      show PyData.depth (.tuple (y.1.map encK)) = 1
      rw [PyData.depth, z]
    rw [hdep]
    show X.A.units + 1 + 1 + 1 < cLine
    omega
  · obtain ⟨c, hc2⟩ := sortedHeap_at (vs := acc.toList) (out := out.toArray) hoL
    have hv := each_refs ho
    have hlen2 : ((xs.mergeSort (PySem.W.dataLe false fun y => encT y.1)).map fun y => V.ref y.2.1).length ≤ sizeLine := by
      rw [List.length_map, List.length_mergeSort]
      exact hz
    refine wpAny_pure ⟨_, rfl, .ref h'.objs.size, upd H h'.objs.size _, I1.laid (t' := tk) (fun b u e => ?_) (Nat.le_refl _) (show ObjOk X.prog X.w _ _ _ (.lst _) from ⟨hlen2, out, c, hv, hc2⟩), rfl, q _ rfl _ (I1.hok.fresh (Nat.le_refl _))⟩
    have hb : b < h'.objs.size := Heap.lt_size e
    exact (sortedHeap_old (Nat.ne_of_lt hb) (by rw [size_push']; exact Nat.lt_succ_of_lt hb)).trans (Heap.get?_push_of_some _ e)
end
end SWL
set_option Elab.async false
set_option linter.all false
set_option maxRecDepth 100000
set_option maxHeartbeats 4000000
namespace SWL
open PySem PySem.Spec PyProof.Rows L2
section
variable {X : Cx}
theorem vals_refs : ∀ {ps : List PairIn} {us : List Value}, Vals (ps.map fun p => V.ref p.at_) us → us = ps.map fun p => Value.ref p.at_
  | [], _, h => by cases h; rfl
  | p :: ps, _, h => by
    cases h with
    | cons h1 h2 =>
      rw [vals_refs h2]
      cases h1
      rfl
theorem pe_sortedDict {e : Expr} {te : TE} {p1 p2 p3 p4 : Pos} (hc : X.calm = true) (hu : X.A.units + 64 < cLine) (g1 : Gl X "sorted") (m1 : X.mg "sorted" = none) (g2 : Gl X "dict") (m2 : X.mg "dict" = none) (he : PE X e te)
    (hs : starEach [e] X.env = (false, eval e X.env) :: starEach [] X.env := by rfl) :
    PE X (.Call (.Name "sorted" p1) [.Call (.Name "dict" p2) [e] [] p3] [] p4) (fun σ H Q => te σ H fun v H1 => askSortedDict X.K v H1 Q) := by
  refine ⟨fun pins s σ H Q I h => wpAny_Call_Name_kw (ld_blt I g1 m1 (by decide +kernel : bootBuiltins "sorted" = some (.builtin "sorted")) (callWith_builtin1 ?_ rfl rfl))⟩
  show wpAny _ _ (spliced ((false, eval (.Call (.Name "dict" p2) [e] [] p3) X.env) :: backTo p4 (starEach [] X.env))) _ _ s
  let Q' : List V → Hp → Prop := fun vs H1 => match vs with | [v] => askSortedDict X.K v H1 Q | _ => False
  refine Calls.spliced_cons (wpAny_Call_Name_kw (ld_blt I g2 m2 (by decide +kernel : bootBuiltins "dict" = some (.type "dict")) (callWith_type1 (thn ((pa_cons he pa_nil hs).run p3 pins s σ H Q' I h) fun us s1 q => ?_) hs rfl)))
  obtain ⟨vs, H1, I1, rel, q⟩ := q
  obtain ⟨v0, rfl⟩ : ∃ v0, vs = [v0] := by
    cases vs with
    | nil => exact q.elim
    | cons v r => cases r with
      | nil => exact ⟨v, rfl⟩
      | cons _ _ => exact q.elim
  obtain ⟨a, ps, rfl, hl, hok, hal, hne, q⟩ := (show askSortedDict X.K v0 H1 Q from q)
  obtain ⟨u, rfl, ru⟩ := vals1 rel
  cases ru
  obtain ⟨hz0, its, n0, rv, ho⟩ := (show ObjOk X.prog X.w H1 s1.heap a (.lst _) from I1.hok _ _ hl)
  have hz : ps.length ≤ sizeLine := by rw [List.length_map] at hz0; exact hz0
  have eits := vals_refs rv
  obtain ⟨xs, hlen, hx⟩ := pairs_there I1 ps hok
  have hh := I1.ok.hd hc
  have hkeys : xs.map (·.1) = ps.map (·.key) := by
    refine List.ext_getElem? fun j => ?_
    rw [List.getElem?_map, List.getElem?_map]
    cases e : ps[j]? with
    | none =>
      have z : xs[j]? = none := List.getElem?_eq_none_iff.mpr (by rw [hlen]; exact List.getElem?_eq_none_iff.mp e)
      rw [z]
      rfl
    | some p =>
      obtain ⟨v, e2, _⟩ := hx j p e
      rw [e2]
      rfl
  let Ts : Nat → Addr := fun j => ((ps[j]?).map (·.at_)).getD 0
  let psv : List (Value × Value) := xs.map fun x => (Value.ref x.2.1, x.2.2)
  have hpsv : psv.length = ps.length := by rw [List.length_map, hlen]
  have at_j : ∀ (j : Nat) (k v : Value), psv[j]? = some (k, v) → ∃ p, ps[j]? = some p ∧ k = .ref p.key_at ∧ xs[j]? = some (p.key, p.key_at, v) ∧ PairAt s1.heap p.at_ k v := by
    intro j k v e
    rw [List.getElem?_map] at e
    cases e2 : xs[j]? with
    | none => rw [e2] at e; simp at e
    | some x =>
      have hj : j < ps.length := by
        rw [← hlen]
        exact (List.getElem?_eq_some_iff.mp e2).1
      obtain ⟨v', e3, pa, _⟩ := hx j _ (List.getElem?_eq_getElem hj)
      rw [e2] at e e3
      cases e3
      cases e
      exact ⟨_, List.getElem?_eq_getElem hj, rfl, rfl, pa⟩
  have hkt : ∀ x ∈ xs, IsTupleKey (mixKind X.prog X.w) s1.heap x.1 x.2.1 := fun x hxm => by
    obtain ⟨j, hj⟩ := List.getElem?_of_mem hxm
    have hj2 : j < ps.length := by
      rw [← hlen]
      exact (List.getElem?_eq_some_iff.mp hj).1
    obtain ⟨v', e3, _, t⟩ := hx j _ (List.getElem?_eq_getElem hj2)
    rw [hj] at e3
    cases e3
    exact t
  have hH : ∀ x ∈ xs, H1 x.2.1 = some (.tup (x.1.map kV)) := fun x hxm => by
    obtain ⟨j, hj⟩ := List.getElem?_of_mem hxm
    have hj2 : j < ps.length := by
      rw [← hlen]
      exact (List.getElem?_eq_some_iff.mp hj).1
    obtain ⟨v', e3, _, t⟩ := hx j _ (List.getElem?_eq_getElem hj2)
    rw [hj] at e3
    cases e3
    exact (hok _ (List.getElem_mem hj2)).2
  have hls : psv.length ≤ sizeLine := by rw [hpsv]; exact hz
  refine PySem.call_dict_pairsH (A := X.A) (s := s1) (knd := tupleKind (mixKind X.prog X.w)) (ps := xs) (PairArg.list a its.toArray Ts psv) hh ?room ⟨⟨_, _, ho, rfl, rfl, rfl⟩, ?items⟩ ?hc ?hst hls fun h' tk hD hk => ?fin
  case items =>
    refine ⟨?_, fun j k v e => ?_⟩
    · rw [List.size_toArray, eits, List.length_map, hpsv]
    · obtain ⟨p, e1, _, _, pa⟩ := at_j j k v e
      have eT : Ts j = p.at_ := by show ((ps[j]?).map (·.at_)).getD 0 = _; rw [e1]; rfl
      rw [eT]
      refine ⟨?_, pa⟩
      rw [List.getElem?_toArray, eits, List.getElem?_map, e1]
      rfl
  case hc =>
    refine ⟨by rw [hpsv, hlen], fun i key v e => ?_⟩
    obtain ⟨p, e1, ek, e3, pa⟩ := at_j i key v e
    exact ⟨_, _, e3, ek⟩
  case hst =>
    intro h2 hk2 x hxm
    obtain ⟨o, its2, n2, z1, z2, z3, z4⟩ := hkt x hxm
    exact ⟨o, its2, n2, hk2 _ _ (Nat.ne_of_lt (Heap.lt_size z1)) (by simp) z1, z2, z3, z4⟩
  case fin =>
    refine Calls.spliced_nil ?_
    have I2 : Inv X pins σ H1 { s1 with heap := h', toks := tk } := I1.kept fun b o e => hk b o (by simp) e
    have ek := storedAll_keys xs
    rw [hkeys] at ek
    have mem1 : ∀ y ∈ storedAllH [] xs, H1 y.2.1 = some (.tup (y.1.map kV)) := fun y hy => by
      rcases storedAll_mem xs [] hy with ⟨z, hz2, _, _⟩ | ⟨z, hz2, f1, f2⟩
      · simp at hz2
      · rw [← f1, ← f2]
        exact hH z hz2
    have hlen2 : (storedAllH [] xs).length ≤ sizeLine := by
      have := storedAllH_length xs []
      simp at this
      omega
    refine sorted_dictH (X := X) (pins := pins) (σ := σ) (H := H1) (xs := storedAllH [] xs) hc hu I2 (beq_eq_false_iff_ne.mpr (Nat.ne_of_gt I1.big)) hD hlen2 ?_ ?_ fun ys hys p hp => ?_
    · rw [ek]
      exact hal
    · intro y hy
      rcases storedAll_mem xs [] hy with ⟨z, hz2, _, _⟩ | ⟨z, hz2, f1, f2⟩
      · simp at hz2
      · rw [← f1]
        have zk : z.1 ∈ xs.map (·.1) := List.mem_map.mpr ⟨z, hz2, rfl⟩
        rw [hkeys] at zk
        obtain ⟨p, hp, e⟩ := List.mem_map.mp zk
        rw [← e]
        exact hne p hp
    · have e1 : (ys.map fun y => V.ref y.2.1) = ((ys.map fun y => (y.2.1, y.1)).map fun q => V.ref q.1) := by rw [List.map_map]; rfl
      rw [e1]
      refine q (ys.map fun y => (y.2.1, y.1)) (fun z hz2 => ?_) ?_ p hp
      · obtain ⟨y, hy, rfl⟩ := List.mem_map.mp hz2
        rw [hys] at hy
        exact mem1 y ((List.mergeSort_perm _ _).mem_iff.mp hy)
      · rw [List.map_map, ← ek, hys]
        exact PySem.W.sort_maps (fun y : List Key × Addr × Value => y.1) fun _ _ _ _ => rfl
  case room =>
    show X.A.units + 1 + 1 < cLine
    omega
end
end SWL
set_option Elab.async false
set_option linter.all false
set_option maxRecDepth 100000
set_option maxHeartbeats 4000000
namespace SWL
open PySem PySem.Spec PyProof.Rows L2
/-! try: body / except C as n: suite, the exception itself being kept beyond the suite -/
def Kept (cls : Value) (d : Option Addr) (a : Addr) : Heap → Prop := fun h => ∃ oe, h.get? a = some oe ∧ Zc cls d oe ∧ ∃ vs, oe.data = .fields vs
def wKeep (K : PySem.W.Frag) (c : Value) (n i : Nat) (ts : Addr → Value → Option Addr → TS) (D : Ends) : WX := fun cls d σ H =>
  PySem.W.exmOne K cls c = some true ∧ (σ.length = n → ∀ a, H a = none → ts a cls d { nx := fun σ' H' => H' a = none → D.nx (σ'.set i none) (upd H' a (.ext (Kept cls d a))), rt := fun _ _ => False, bk := fun _ _ => False, ct := fun _ _ => False } (σ.set i (some (.ref a))) H)
section
variable {X : Cx} {pins : List (Addr × Obj)} {σ : L2.St} {H : Hp} {s : Shared}
theorem seen {a : Addr} {o : HO} (I : Inv X pins σ H s) (hn : H a = none) (hL : a ≠ X.env.locals) (h0 : a ∉ X.ex → X.s_0.heap.get? a = none) (hc : ∀ x c, X.env.cells.lookup x = some c → c ≠ a) (hp : ∀ p ∈ X.pn ++ pins, p.1 ≠ a)
    (new : ObjOk X.prog X.w (upd H a o) s.heap a o) : Inv X pins σ (upd H a o) s := by
  have ne : ∀ {b u}, H b = some u → b ≠ a := fun e => ne_of_none e hn
  have up : ∀ {b u}, H b = some u → upd H a o b = some u := fun e => by rw [upd_ne (ne e)]; exact e
  refine ⟨I.ok, I.os, I.bare, ⟨I.base.keep, I.base.slot, fun b u e n hx => ?_, I.base.there, fun b xs e => up (I.base.tups b xs e), fun b u xs e => up (I.base.frzs b u xs e), fun b ps e => ?_⟩, I.loc, I.cell, ?_, fun x c e => ?_, fun p hq => ?_, fun b u e => ?_, I.len⟩
  · have nb : b ≠ a := fun z => by rw [z, h0 (z ▸ hx)] at e; cases e
    rw [upd_ne nb]
    exact I.base.free b u e n hx
  · obtain ⟨m, q⟩ := I.base.tbls b ps e
    exact ⟨m, up q⟩
  · rw [upd_ne hL.symm]
    exact I.free
  · rw [upd_ne (hc x c e)]
    exact I.freeC x c e
  · obtain ⟨q1, q2, q3⟩ := I.pin p hq
    exact ⟨q1, by rw [upd_ne (hp p hq)]; exact q2, q3⟩
  · by_cases hb : b = a
    · subst hb
      rw [upd_same] at e
      cases e
      exact new
    · rw [upd_ne hb] at e
      exact (I.hok b u e).stay (fun c v _ q => q) (fun c q => up q) fun c xs q => up q
/-- the pin of the suite, as one of ours -/
theorem mine {a : Addr} {oe : Obj} (I : Inv (X.suite a ((a, oe) :: (X.pn ++ pins))) [] σ H s) (ok : X.Ok) : Inv X ((a, oe) :: pins) σ H s := by
  refine ⟨ok, I.os, I.bare, I.base, I.loc, I.cell, I.free, I.freeC, fun p hp => I.pin p ?_, I.hok, I.len⟩
  show p ∈ ((a, oe) :: (X.pn ++ pins)) ++ []
  rcases List.mem_append.mp hp with h | h
  · simp [h]
  · rcases List.mem_cons.mp h with h | h <;> simp [h]
theorem unpin {q : Addr × Obj} (I : Inv X (q :: pins) σ H s) : Inv X pins σ H s :=
  ⟨I.ok, I.os, I.bare, I.base, I.loc, I.cell, I.free, I.freeC, fun p hp => I.pin p (by rcases List.mem_append.mp hp with h | h <;> simp [h]), I.hok, I.len⟩
end
section
variable {X : Cx} {x n : Str} {c : Value} {i : Nat} {body suite : List Stmt} {b₀ : Stmt} {np pos pos' : Pos} {tb : WX → TS} {ts : Addr → Value → Option Addr → TS}
theorem ps_try_keep (hs : X.stack = X.env :: X.outer) (hf : X.env.frame = some X.env.locals) (hN : X.N.Nodup) (hi : X.N[i]? = some n) (hln : X.env.kindOf n = some .local) (hc : Names X x c)
    (hb : ∀ (W : WX) (pn : List (Addr × Obj)) (xe : Value → Shared → Prop), Takes (X.tr pn xe) W → PassesOwn (model X.prog X.w) X.A X.env xe → PSs (X.tr pn xe) body (tb W))
    (hsu : ∀ (a : Addr) (oe : Obj) (cls : Value) (d : Option Addr) (pn : List (Addr × Obj)), Zc cls d oe → (∃ vs, oe.data = .fields vs) → PSs (X.suite a ((a, oe) :: pn)) (b₀ :: suite) (ts a cls d)) :
    PS X (.Try body [.ExceptHandler (some (.Name x np)) (some n) (b₀ :: suite) pos'] [] [] pos) (fun D σ H => tb (wKeep X.K c X.N.length i ts D) D σ H) := by
  constructor
  intro pins s σ H D I h
  have ok := I.ok
  have hfr : X.A.frames = some (X.env :: X.outer) := ok.frames.trans (congrArg some hs)
  have back : ∀ {f : Flow} {s1 : Shared} {pn xe}, SP (X.tr (X.pn ++ pins) xe) pn D f s1 → SP X pins D f s1 := by
    intro f s1 pn xe q
    cases f with
    | ret u => obtain ⟨v, σ', H', J, z⟩ := q; exact ⟨v, σ', H', J.ofTry ok, z⟩
    | next => obtain ⟨σ', H', J, z⟩ := q; exact ⟨σ', H', J.ofTry ok, z⟩
    | brk => obtain ⟨σ', H', J, z⟩ := q; exact ⟨σ', H', J.ofTry ok, z⟩
    | cont => obtain ⟨σ', H', J, z⟩ := q; exact ⟨σ', H', J.ofTry ok, z⟩
  let hand : Value → Shared → Prop := fun e s₁ => wpAny (model X.prog X.w) X.A (noteFrame e X.env) (fun _ s₂ => wpAny (model X.prog X.w) X.A (setFlight e none) (fun _ s₃ =>
    wpAny (model X.prog X.w) X.A (handleBy e X.env [.ExceptHandler (some (.Name x np)) (some n) (b₀ :: suite) pos']) (SP X pins D) X.xe s₃) X.xe s₂) X.xe s₁
  have take : Takes (X.tr (X.pn ++ pins) hand) (wKeep X.K c X.N.length i ts D) := by
    intro u s' xx
    obtain ⟨a, B, sI, pins', σ', H', cls, d, rfl, J0, nb, up, sky, na, os, ag, hex, hts⟩ := xx
    have J := J0.ofTry ok
    have nb' : ∀ b o, sI.heap.get? b = some o → b ∉ frs (X.env :: X.outer) → B.get? b = some o := fun b o e z => nb b o e (by rw [show (X.tr (X.pn ++ pins) hand).stack = X.env :: X.outer from hs]; exact z)
    have sky' : Sky B (X.env :: X.outer) a (Zc cls d) X.env.locals s'.heap := by
      rw [← hs]
      exact sky
    show wpAny (model X.prog X.w) X.A (noteFrame (.ref a) X.env) _ _ _
    refine Sky.land Zc.steady hfr hf sky' fun h3 fl3 up3 => ?_
    obtain ⟨o3, v3, g3, z3, d3⟩ := fl3.there
    -- the exception's place is no frame's, and new
    have nfr : a ∉ frs (X.env :: X.outer) := fun hm => by
      obtain ⟨_, o', e', q⟩ := fl3.2.2.1.mem hm
      rw [g3] at e'
      cases e'
      exact q _ d3
    have nL : a ≠ X.env.locals := fun z => nfr (List.mem_filterMap.mpr ⟨X.env, List.mem_cons_self, hf.trans (congrArg some z.symm)⟩)
    have nF : a ∉ X.fs := fun hm => by
      obtain ⟨e, he, q⟩ := List.mem_filterMap.mp hm
      exact nfr (List.mem_filterMap.mpr ⟨e, List.mem_cons_of_mem _ he, q⟩)
    have fresh : ∀ o, sI.heap.get? a ≠ some o := fun o e => by
      have q := nb' a o e nfr
      rw [fl3.2.1] at q
      cases q
    have new0 : a ∉ X.ex → X.s_0.heap.get? a = none := by
      intro hx
      cases e : X.s_0.heap.get? a with
      | none => rfl
      | some o =>
        obtain ⟨o', e'⟩ := J.base.there a o e hx
        exact absurd e' (fresh o')
    have newC : ∀ y c, X.env.cells.lookup y = some c → c ≠ a := fun y c e z => by
      obtain ⟨v, oc, q, _⟩ := J.cell y c e
      rw [z] at q
      exact fresh _ q
    have newP : ∀ p ∈ X.pn ++ pins, p.1 ≠ a := fun p hp z => by
      have q := (J.pin p hp).1
      rw [z] at q
      exact fresh _ q
    have J3 : Inv X pins σ' H' { s' with heap := h3 } := J.landed nb fl3.1 (up.trans up3) os ag
    have S3 := J3.suite g3 d3 na nL nF
    refine wpAny_handleBy_cons (codeAny_handlers_test ?_) (by intro q; cases q)
    have LM := PySem.W.exm_one (M := model X.prog X.w) (J3.kIn) (show PySem.W.Looks (model X.prog X.w) h3 (typeOf (.ref a)) cls from fun A Q E s k q => wpAny_typeOf_ref (k _ _ g3) (by rw [z3.1]; exact q)) hex
    have test : ∀ {Q : Value → Shared → Prop} {E : Value → Shared → Prop}, Q c { s' with heap := h3 } → wpAny (model X.prog X.w) (X.A.mark (some (.ref a))) (eval (.Name x np) X.env) Q E { s' with heap := h3 } := by
      intro Q E q
      obtain ⟨hg, hdbg, hm | ⟨hm, hv, hnn⟩⟩ := hc
      · exact ld_glob (X := X.suite a ((a, o3) :: (X.pn ++ pins))) S3 hg hm q hdbg
      · exact ld_blt (X := X.suite a ((a, o3) :: (X.pn ++ pins))) S3 hg hm hv q hnn hdbg
    refine test (LM.here (codeAny_handlers_suite_as ?_))
    refine HandSPX.lands_againZ fl3 fun h4 fl4 up4 => ?_
    have J4 : Inv X pins σ' H' { s' with heap := h4 } := J.landed nb fl4.1 ((up.trans up3).trans up4) os ag
    obtain ⟨o4, v4, g4, z4, d4⟩ := fl4.there
    refine store_ok (X := X.suite a ((a, o4) :: (X.pn ++ pins))) (v := .ref a) (J4.suite g4 d4 na nL nF) hN hi (.inl hln) rfl (fun s5 S5 => ?_) (.inr hln)
    refine wpAny_mono ((hsu a o4 cls d (X.pn ++ pins) z4 ⟨_, d4⟩).run [] s5 _ H' _ S5 (hts J.len a na)) (fun f s6 q => ?_) fun _ _ z => z.elim
    cases f with
    | next =>
      obtain ⟨σ6, H6, S6, q6⟩ := q
      refine gone_ok (mine S6 ok) hN hi hln fun s7 J7 => ?_
      have hn : H6 a = none := (J7.pin (a, o4) (List.mem_append_right _ List.mem_cons_self)).2.1
      have g7 := (J7.pin (a, o4) (List.mem_append_right _ List.mem_cons_self)).1
      exact ⟨_, _, seen (unpin J7) hn nL new0 newC newP (show ObjOk X.prog X.w _ _ _ (.ext (Kept cls d a)) from ⟨⟨o4, g7, z4, _, d4⟩, ⟨_, g7⟩, fun h1 h2 ⟨oe, e1, e2⟩ hk => ⟨oe, hk _ e1, e2⟩⟩), q6 hn⟩
    | brk =>
      obtain ⟨_, _, _, z⟩ := q
      exact z.elim
    | cont =>
      obtain ⟨_, _, _, z⟩ := q
      exact z.elim
    | ret u =>
      obtain ⟨_, _, _, _, _, z⟩ := q
      exact z.elim
  refine wpAny_Try_except (wpAny_mono ((hb _ (X.pn ++ pins) hand take PassesOwn.looking).run [] s σ H D (I.toTry _) h) (fun f s1 q => ?_) fun e s1 he => he)
  have q' : SP X pins D f s1 := back q
  cases f with
  | next => exact wpAny_execs_nil q'
  | ret u => exact q'
  | brk => exact q'
  | cont => exact q'
/-- isinstance(e, c), e an exception that was kept -/
def rIsKept (K : PySem.W.Frag) : List V → Hp → VK → Prop := fun xs H Q => ∃ (a D : Addr) (c : V) (cv : Value) (b : Bool), xs = [.ref a, c] ∧ H a = some (.ext (Kept (.ref D) none a)) ∧ ExcC K D ∧ (∀ u, RelV c u → u = cv) ∧ PySem.W.kitOne K (.ref D) cv = some b ∧ Q (.bl b) H
theorem call_isKept : CallR X (.builtin "isinstance") (rIsKept X.K) := by
  intro pins s σ H xs us Q I r h
  obtain ⟨a, D, c, cv, b, rfl, ha, C, hcv, e, q⟩ := h
  cases r with
  | cons rx rr =>
    cases rr with
    | cons rt rr =>
      cases rr
      cases rx
      cases hcv _ rt
      obtain ⟨⟨oe, hget, hz, vs, hv⟩, _, _⟩ := (show ObjOk X.prog X.w H s.heap a (.ext (Kept (.ref D) none a)) from I.hok _ _ ha)
      have J : PySem.W.InstAt s.heap a oe D none := by
        obtain ⟨oc, od, oda, osl⟩ := oe
        obtain ⟨h1, h2⟩ := hz
        dsimp only at h1 h2 hv
        subst h1 h2 hv
        exact ⟨hget, rfl, rfl, trivial⟩
      refine PySem.W.kia_one (PySem.W.handS_kitx_exc C.hg C.hk C.hs C.hd C.ha C.hn C.ht C.hm) I.kIn J e (fun z => nomatch z) fun tk => ?_
      exact ⟨.bl b, H, I.kept (t' := tk) fun _ _ z => z, rfl, q⟩
end
end SWL
set_option Elab.async false
set_option linter.all false
set_option maxRecDepth 100000
set_option maxHeartbeats 4000000
namespace SWL
open PySem PySem.Spec PyProof.Rows L2 LamX
/-! the def that calls what it got and hands back the exception that it caught -/
def TCaught (K : PySem.W.Frag) (CS : Addr) : (XK → Hp → VK → Prop) → Hp → VK → Prop := fun tl H Q =>
  tl (fun cls d H' => PySem.W.exmOne K cls (.ref CS) = some true ∧ ∀ a, H' a = none → Q (.ref a) (upd H' a (.ext (Kept cls d a)))) H (fun _ H' => ∃ v, (some (some V.non) : Option (Option V)) = some (some v) ∧ Q v H')
section
variable {X : Cx}
theorem caught_gives {x a fnd err en q : Str} {sg : Scope} {g CS : Addr} {cdg : Value} {p1 p2 p3 p4 p5 p6 p7 p8 p9 p10 p11 p12 p13 p14 : Pos} {j : Nat}
    (hge : sg.names.lookup en = some .globalImplicit) (hme : X.mg en = some (.ref CS)) (hde : (en == ("__debug__" : Str)) = false)
    (hlf : sg.names.lookup fnd = some .local) (hle : sg.names.lookup err = some .local)
    (hN : [a, fnd, err].Nodup) (df : (fnd == ("__debug__" : Str)) = false) (cf : (fnd == ("__classdict__" : Str)) = false) (de : (err == ("__debug__" : Str)) = false) (ce : (err == ("__classdict__" : Str)) = false) :
    GivesTo X [a, fnd, err] x sg g cdg [.Assign [.Name fnd p1] (.Constant .none j p2) p3, .Try [.Expr (.Call (.Name a p4) [] [] p5) p6] [.ExceptHandler (some (.Name en p7)) (some err) [.Assign [.Name fnd p8] (.Name err p9) p10] p11] [] [] p12, .Return (some (.Name fnd p13)) p14] a q (TCaught X.K CS) := by
  intro f c' s H Q tl act hc h
  have hgl : Gl (cxOf C8.CX0 X.prog X.w X.K X.mg X.base [a, fnd, err] x sg g cdg X.A X.stack s H C8.E0).nox en := hge
  have la : Loc sg fnd := .inl hlf
  have le : Loc sg err := .inl hle
  refine ⟨_, pss_cons (ps_set (X := (cxOf C8.CX0 X.prog X.w X.K X.mg X.base [a, fnd, err] x sg g cdg X.A X.stack s H C8.E0).nox) (i := 1) hN rfl la pe_non (hf := .inr hlf))
    (pss_cons (ps_try_keep (X := (cxOf C8.CX0 X.prog X.w X.K X.mg X.base [a, fnd, err] x sg g cdg X.A X.stack s H C8.E0).nox) (c := .ref CS) (i := 2)
      (tb := fun W D σ H => ∃ Ech : XK, (∀ cls d σ' H', Ech cls d H' → W cls d σ' H') ∧ σ[0]? = some (some (.ref f)) ∧ H c' = some (CodeO c' q) ∧ tl Ech H fun _ H' => D.nx σ H')
      rfl rfl hN rfl hle ⟨hgl, hde, .inl hme⟩ (fun W pn xe tk _ => ?_) (fun a' oe cls d pn _ _ => pss_one (ps_set (i := 1) hN rfl la (pe_var (i := 2) rfl (.inl hle) de ce) (hf := .inr hlf))))
    (pss_one (ps_ret (pe_var (i := 1) rfl (.inl hlf) df cf)))), ?_⟩
  · refine ⟨fun pins s' σ H' D I h' => ?_⟩
    obtain ⟨Ech, hW, h1, h2, h3⟩ := h'
    have hp := act W pn xe Ech p4 p5 tk hW
    exact (pss_one (ps_expr (pos := p6) hp (by rfl))).run pins s' σ H' D I ⟨h1, h2, h3⟩
  · refine ⟨fun cls d H' => PySem.W.exmOne X.K cls (.ref CS) = some true ∧ ∀ a, H' a = none → Q (.ref a) (upd H' a (.ext (Kept cls d a))), fun cls d σ' H' ⟨e1, e2⟩ => ⟨e1, fun hl a' na => ?_⟩, rfl, hc, h⟩
    obtain ⟨s0, s1, s2, rfl⟩ : ∃ s0 s1 s2, σ' = [s0, s1, s2] := by
      match σ', hl with
      | [x, y, z], _ => exact ⟨x, y, z, rfl⟩
    exact ⟨_, rfl, fun na' => ⟨_, rfl, e2 a' na'⟩⟩
end
end SWL
set_option Elab.async false
set_option linter.all false
set_option maxRecDepth 100000
set_option maxHeartbeats 4000000
namespace SWL
open PySem PySem.Spec PyProof.Rows L2 LamX
/-! defs that ask that no guard is in hand (for repr): their promises, their calls, and the end of a law row with them -/
structure FnG (P : Program) (w : World) (K : PySem.W.Frag) (mg : Str → Option Value) (base : Heap) (k : Nat) (f : Addr) (fd : FuncData) (ps : List Str) (sp : Sp) : Prop where
  len : ∀ vs H Q E, sp vs H Q E → vs.length = ps.length
  run : ∀ (A : Around) (outer : List Env) (s : Shared) (H : Hp) (args : Args) (us : List Value) (vs : List V) (Q : VK) (E : XK), A.guards = some [] → Room k A → Env0 P w K mg base A outer s H → BindsTo s fd args (ps.zip us) → Vals vs us → sp vs H Q E →
    codeAny (model P w) A (.call (.ref f) args) (CR CX0 outer P w H s Q E) s
theorem guards_deeper {A : Around} (env : Env) (h : A.guards = some []) : (A.deeper env).guards = some [] := h
section
variable {P : Program} {w : World} {K : PySem.W.Frag} {mg : Str → Option Value} {base : Heap}
theorem fng_ok {x qual : Str} {st : Stmt} {f : Addr} {fd : FuncData} {N ps : List Str} {k : Nat} {sp : Sp} (F : L2.Fun K x qual st f fd) (S : FnScope N ps (defScope st)) (len : ∀ vs H Q E, sp vs H Q E → vs.length = ps.length)
    (hbody : ∀ (cdv : Value) (A : Around) (outer : List Env) (s : Shared) (H : Hp) (vs : List V) (Q : VK) (E : XK), A.guards = some [] → PySem.W.codeIn K cdv qual = true → Room k (A.deeper (envOfC qual (defScope st) s.heap.objs.size f cdv)) → sp vs H Q E →
      ∃ t, PSs (cxOf CX0 P w K mg base N qual (defScope st) f cdv A outer s H E).nox (defBody st) t ∧ t { nx := fun _ H' => Q .non H', rt := Q } (L2.start N vs) H) : FnG P w K mg base (k + 1) f fd ps sp := by
  obtain ⟨oc, od, kV, doc, pm, an, cdv, ct, osl, rfl, lk, hcd⟩ := F.ex
  refine ⟨len, fun A outer s H args us vs Q E gA hr e0 hb r hsp => ?_⟩
  refine run_ofS lk hcd S hr e0 hb r (len _ _ _ _ hsp) fun hr2 => ?_
  obtain ⟨t, h, q⟩ := hbody cdv A outer s H vs Q E gA hcd hr2 hsp
  exact ⟨t, h.nox, q⟩
end
section
variable {X : Cx} {k : Nat} {f : Addr} {fd : FuncData} {ps : List Str} {sp : Sp} {E : XK} {x : Str} {p pos : Pos} {e : Expr} {es : List Expr} {t : TA}
theorem pe_callG (gd : X.A.guards = some []) (F : FnG X.prog X.w X.K X.mg X.base k f fd ps sp) (hr : Room k X.A) (hg : Gl X x) (hm : X.mg x = some (.ref f)) (hk : PySem.W.keepIn X.K (.ref f) = true) (hb : Binds X.K fd ps [])
    (ha : PA X (e :: es) t) (hdb : (x == ("__debug__" : Str)) = false := by decide) (he : starEach (e :: es) X.env = (false, eval e X.env) :: starEach es X.env := by rfl) (hpl : (backTo pos (starEach es X.env)).any (·.1) = false := by rfl) :
    PE X (.Call (.Name x p) (e :: es) [] pos) (tCall sp [] E0 t) := by
  constructor
  intro pins s σ H Q I h
  refine wpAny_Call_Name_kw (ld_glob I hg hm (PySem.W.callWith_K (h₀ := X.base) I.ok.mod.kin hk (thn (ha.run pos pins s σ H _ I h) fun us s1 ⟨vs, H1, I1, r, q⟩ => ⟨I1.kIn, ?_⟩) he hpl) hdb)
  have q : sp vs H1 Q E0 := by
    have z : sp (vs ++ []) H1 Q E0 := q
    rw [List.append_nil] at z
    exact z
  have hl : us.length = ps.length := r.length.symm.trans (F.len _ _ _ _ q)
  have hb1 := hb s1 us I1.kIn (by rw [List.append_nil]; exact hl)
  rw [List.append_nil] at hb1
  refine wpAny_call (codeAny_mono (F.run X.A X.stack s1 H1 ⟨us, []⟩ us vs Q E0 gd hr I1.env0 hb1 r q) fun r s' hq => ?_)
  match r, hq with
  | .error _, z => exact False.elim z
  | .ok (.ret u), z => exact I1.after z
  | .ok .next, z => exact False.elim z
  | .ok .brk, z => exact False.elim z
  | .ok .cont, z => exact False.elim z
end
theorem vals_rev : ∀ {xs : List V} {us : List Value}, Vals xs us → Vals xs.reverse us.reverse
  | _, _, .nil => .nil
  | _, _, .cons h t => by
    rw [List.reverse_cons, List.reverse_cons]
    exact (vals_rev t).append (.cons h .nil)
/-! the end -/
/-- what is tracked at the start: the tables, the script -/
def hp0 (T : List Addr) (a : Addr) (own : Bool) (o : Obj) (xs : List V) : Hp := fun b => if b ∈ T then some (.tbl #[]) else if b = a ∧ own = true then some (.frz o (.lst xs)) else none
theorem hp0_tab {T : List Addr} {a : Addr} {own : Bool} {o : Obj} {xs : List V} {b : Addr} (h : b ∈ T) : hp0 T a own o xs b = some (.tbl #[]) := if_pos h
theorem hp0_cases {T : List Addr} {a : Addr} {own : Bool} {o : Obj} {xs : List V} (b : Addr) : (b ∈ T ∧ hp0 T a own o xs b = some (.tbl #[])) ∨ (b ∉ T ∧ b = a ∧ own = true ∧ hp0 T a own o xs b = some (.frz o (.lst xs))) ∨ (b ∉ T ∧ hp0 T a own o xs b = none) := by
  by_cases h : b ∈ T
  · exact .inl ⟨h, if_pos h⟩
  · by_cases h2 : b = a ∧ own = true
    · exact .inr (.inl ⟨h, h2.1, h2.2, (if_neg h).trans (if_pos h2)⟩)
    · exact .inr (.inr ⟨h, (if_neg h).trans (if_neg h2)⟩)
/-- what is known of the law's promise at the head's heap -/
def LawG (l : PySem.W.OpenLaw) (w : World) (K : PySem.W.Frag) (k n : Nat) (x : Str) (mg : Str → Option Value) (fa : Addr) (h : Heap) : Prop :=
  ∃ (fd : FuncData) (cs : List (Addr × Addr)) (sp : Sp), (∀ p ∈ cs, h.get? p.2 = some { cls := .none, data := .fields #[] }) ∧ (∀ p ∈ cs, K.lookup p.2 = none) ∧ (∀ p ∈ cs, PySem.W.CodeHd h p.1 p.2) ∧ (∀ (s : Shared) (u : Value), BindsTo s fd ⟨[u], []⟩ [(x, u)]) ∧
    (∀ (H : Hp) (a : Addr) (ns : List Int), ns.length ≤ n → (∀ z ∈ ns, Builtin.Int.intBits z ≤ 1048576) → (∀ p ∈ cs, H p.2 = some (.tbl #[])) → SqL K H a (ns.map V.int) → sp [.ref a] H (fun v _ => v = .bl true) fun _ _ _ => False) ∧
    ∀ base : Heap, K.In base → base.Ns mainGlobals mg → (∀ p ∈ cs, TabB base mg p.1 p.2) → FnG l.prog w K mg base k fa fd [x] sp
theorem law_callG {P : Program} {w : World} {K : PySem.W.Frag} {mg mb : Str → Option Value} {k : Nat} {fa a : Addr} {cs : List (Addr × Addr)} {fd : FuncData} {x : Str} {sp : Sp} {s : Shared} {vs : List Value} {ns : List Int}
    (KX : K.In s.heap) (hns : s.heap.Ns mainGlobals mg) (hb : s.heap.Ns builtinsNs mb) (hbb : ∀ x : Str, x ≠ "__name__" → mb x = bootBuiltins x) (hlim : s.heap.NoLimit) (hg : s.gens = #[])
    (hT : ∀ p ∈ cs, s.heap.get? p.2 = some { cls := .none, data := .fields #[] }) (nT : ∀ p ∈ cs, K.lookup p.2 = none) (C : ∀ p ∈ cs, PySem.W.CodeHd s.heap p.1 p.2)
    (hbm : ∃ (bm : Addr) (ob : Obj), mg "__builtins__" = some (.ref bm) ∧ bm ≠ builtinsNs ∧ s.heap.get? bm = some ob ∧ ob.cls = .type "module" ∧ ob.dict = some builtinsNs ∧ ob.data = .plain)
    (ha : s.heap.get? a = some { cls := .type "list", data := .seq vs.toArray }) (hi : IntsAre vs ns) (hl : ns.length ≤ sizeLine) (hr : Room k callerA)
    (F : ∀ base : Heap, K.In base → base.Ns mainGlobals mg → (∀ p ∈ cs, TabB base mg p.1 p.2) → FnG P w K mg base k fa fd [x] sp) (hbind : ∀ (s : Shared) (u : Value), BindsTo s fd ⟨[u], []⟩ [(x, u)])
    (hsp : ∀ H : Hp, (∀ p ∈ cs, H p.2 = some (.tbl #[])) → SqL K H a (ns.map V.int) → sp [.ref a] H (fun v _ => v = .bl true) fun _ _ _ => False) :
    codeAny (model P w) callerA (.call (.ref fa) ⟨[.ref a], []⟩) (fun r s' => r = .ok (.ret (.bool true)) ∧ OldK s.heap s'.heap ∧ s'.os = s.os ∧ AllBare s'.gens) s := by
  generalize hTs : cs.map (·.2) = T
  have inT : ∀ {p}, p ∈ cs → p.2 ∈ T := fun hp => by rw [← hTs]; exact List.mem_map.mpr ⟨_, hp, rfl⟩
  have ofT : ∀ {b}, b ∈ T → ∃ p ∈ cs, p.2 = b := fun hb => by rw [← hTs] at hb; exact List.mem_map.mp hb
  have atT : ∀ {b}, b ∈ T → s.heap.get? b = some { cls := .none, data := .fields #[] } := fun hb => by
    obtain ⟨p, hp, e⟩ := ofT hb
    rw [← e]
    exact hT p hp
  let os : Obj := { cls := .type "list", data := .seq vs.toArray }
  let own : Bool := (K.lookup a).isNone
  let H : Hp := hp0 T a own os (ns.map V.int)
  have aT : a ∉ T := fun z => by
    have q := (atT z).symm.trans ha
    cases q
  have rv := vals_ints hi
  have hHT : ∀ p ∈ cs, H p.2 = some (.tbl #[]) := fun p hp => hp0_tab (inT hp)
  have seq : SqL K H a (ns.map V.int) := by
    cases e : K.lookup a with
    | some o =>
      have z := (KX a o e).symm.trans ha
      cases z
      exact .inr ⟨_, vs.toArray, _, e, rfl, rfl, rfl, by rw [List.size_toArray, hi.length]; exact hl, by simpa using rv⟩
    | none =>
      have hown : own = true := by show (K.lookup a).isNone = true; rw [e]; rfl
      exact .inl (.inr ⟨os, (if_neg aT).trans (if_pos ⟨rfl, hown⟩)⟩)
  have hok : HOk P w H s.heap := fun b u e => by
    rcases hp0_cases (T := T) (a := a) (own := own) (o := os) (xs := ns.map V.int) b with ⟨h1, h2⟩ | ⟨_, rfl, _, h2⟩ | ⟨_, h2⟩
    · cases (show H b = some (.tbl #[]) from h2).symm.trans e
      exact atT h1
    · cases (show H b = _ from h2).symm.trans e
      exact ⟨ha, by rw [List.length_map]; exact hl, vs, _, rv, ha⟩
    · cases (show H b = none from h2).symm.trans e
  -- what is no list and no empty table is untracked
  have un0 : ∀ {b : Addr} {o : Obj}, s.heap.get? b = some o → (∀ vs n, o.data ≠ .seq vs n) → o.data ≠ .fields #[] → H b = none := fun {b o} e h1 h2 => by
    rcases hp0_cases (T := T) (a := a) (own := own) (o := os) (xs := ns.map V.int) b with ⟨q1, _⟩ | ⟨_, rfl, _, _⟩ | ⟨_, q⟩
    · cases e.symm.trans (atT q1)
      exact absurd rfl h2
    · cases e.symm.trans ha
      exact absurd rfl (h1 _ _)
    · exact q
  have hid : ∀ {b o}, s.heap.get? b = some o → H b = none → (hidT s.heap H).get? b = some o := fun e n => hidT_get e n
  have hidNs : ∀ {b m}, s.heap.Ns b m → (hidT s.heap H).Ns b m := fun ⟨o, es, ep, e, d, r⟩ => ⟨o, es, ep, hid e (un0 e (fun _ _ z => by rw [d] at z; cases z) fun z => by rw [d] at z; cases z), d, r⟩
  have hKb : K.In (hidT s.heap H) := fun b o e => hid (KX b o e) (by
    rcases hp0_cases (T := T) (a := a) (own := own) (o := os) (xs := ns.map V.int) b with ⟨q1, _⟩ | ⟨_, rfl, q2, _⟩ | ⟨_, q⟩
    · obtain ⟨p, hp, rfl⟩ := ofT q1
      cases (nT p hp).symm.trans e
    · have q3 : (K.lookup b).isNone = true := q2
      rw [e] at q3
      cases q3
    · exact q)
  have hM : L2.Mod K mg (hidT s.heap H) := by
    obtain ⟨mc, h1, h2⟩ := hlim
    exact ⟨hKb, hidNs hns, ⟨mb, hidNs hb, hbb⟩, mc, hidNs h1, h2⟩
  have TB : ∀ p ∈ cs, TabB (hidT s.heap H) mg p.1 p.2 := fun p hp => by
    have tp := hT p hp
    refine ⟨?_, ?_, fun z => ?_⟩
    · obtain ⟨o, us, file, tf, flags, tg, inF, text, tt, e1, r1, r2, r3, rest⟩ := C p hp
      refine ⟨o, us, file, tf, flags, tg, inF, text, tt, hid e1 (un0 e1 (fun _ _ z => by rw [r2] at z; cases z) fun z => ?_), r1, r2, r3, rest⟩
      rw [r2] at z
      cases z
      simp at r3
    · obtain ⟨bm, ob, b1, b2, b3, b4, b5, b6⟩ := hbm
      refine ⟨bm, ob, b1, b2, fun q => ?_, fun q => ?_, hid b3 (un0 b3 (fun _ _ z => by rw [b6] at z; cases z) fun z => by rw [b6] at z; cases z), b4, b5, b6⟩
      · obtain ⟨o, es, ep, e, hd, _⟩ := hns
        rw [q] at b3
        cases e.symm.trans b3
        cases hd.symm.trans b6
      · rw [q] at b3
        cases tp.symm.trans b3
        cases b6
    · obtain ⟨o, es, ep, e, hd, _⟩ := hns
      rw [z] at e
      cases tp.symm.trans e
      cases hd
  have e0 : Env0 P w K mg (hidT s.heap H) callerA [] s H := ⟨rfl, hM, fun b o e => of_hidT e, Nat.le_of_eq (hidT_size _ _), trivial, fun b hb => absurd (show b ∈ ([] : List Addr) from hb) (by simp), hok, .of_eq hg⟩
  refine codeAny_mono ((F _ hKb (hidNs hns) TB).run callerA [] s H ⟨[.ref a], []⟩ [.ref a] [.ref a] _ _ rfl hr e0 (hbind s (.ref a)) (.cons rfl .nil) (hsp H hHT seq)) fun r s' h => ?_
  match r, h with
  | .error _, z => exact False.elim z
  | .ok .next, z => exact False.elim z
  | .ok .brk, z => exact False.elim z
  | .ok .cont, z => exact False.elim z
  | .ok (.ret u), z =>
    obtain ⟨v, H', eos, bare, un, hok', rv', q⟩ := z
    cases (show v = .bl true from q)
    cases (show u = Value.bool true from rv')
    have same : ∀ b o, b ∉ T → s.heap.get? b = some o → s'.heap.get? b = some o := fun b o nb e => by
      rcases hp0_cases (T := T) (a := a) (own := own) (o := os) (xs := ns.map V.int) b with ⟨q1, _⟩ | ⟨_, rfl, _, q1⟩ | ⟨_, q1⟩
      · exact absurd q1 nb
      · have z2 := (hok' b _ (un.frzs b _ _ q1)).1
        cases e.symm.trans ha
        exact z2
      · exact un.keep b o e q1 (fun z => absurd (show b ∈ ([] : List Addr) from z) (by simp)) (by simp)
    have grown : ∀ p ∈ cs, ∃ more : Array Value, s'.heap.get? p.2 = some { cls := .none, data := .fields more } := fun p hp => by
      obtain ⟨more, z⟩ := un.tbls p.2 #[] (hHT p hp)
      exact ⟨_, hok' p.2 _ z⟩
    refine ⟨rfl, ⟨fun b o e => ?_, fun b o e => ?_⟩, eos, bare⟩
    · by_cases hb : b ∈ T
      · obtain ⟨p, hp, rfl⟩ := ofT hb
        obtain ⟨more, hm⟩ := grown p hp
        cases e.symm.trans (hT p hp)
        exact .inr (.inl ⟨((C p hp).tab (hT p hp)).isCodeTable, rfl, #[], more, rfl, by rw [Array.empty_append]; exact hm⟩)
      · exact .inl (same b o hb e)
    · by_cases hb : b ∈ T
      · obtain ⟨p, hp, rfl⟩ := ofT hb
        obtain ⟨more, hm⟩ := grown p hp
        exact ⟨_, hm⟩
      · exact ⟨o, same b o hb e⟩
theorem walk_ofG {l : PySem.W.OpenLaw} {n k : Nat} {q : Program} {loose : List Str} {XP : (Str → Option Value) → Heap → Prop} {YP : World → Heap → Prop} {d : DefRec} {K : Params → PySem.W.Frag} {x : Str}
    (hn : l.most = some n) (hn2 : n ≤ sizeLine) (hdf : d.params.defaults = []) (hr : Room k callerA) (hY : ∀ (w : World) (h : Heap), YP w h → (K w.params).In h)
    (F : ∀ (w : World) (mg : Str → Option Value) (fa : Addr) (h : Heap) (lo : List Str) (mean : ExcName → Option Value) (mb : Str → Option Value), Top q lo mean mg mb h → YP w h → (K w.params).In h → h.Ns mainGlobals mg → mg d.name = some (.ref fa) → LawG l w (K w.params) k n x mg fa h) :
    PySem.W.WalkO q loose XP YP l.row.toRowW d [] (fun f vs => PySem.call f vs) := by
  refine Att.attach_callB hn hdf fun w s₀ s₁ mg mb fa o pm cd doc a vs ns G Y ho hd hcd hmg hobj hints hlen hbits hg => ?_
  obtain ⟨fd, cs, sp, hT, nT, C, hb, hsp, hF⟩ := F w mg fa _ _ _ _ G.T Y (hY w _ Y) G.T.g hmg
  exact law_callG (hY w _ Y) G.T.g G.T.b G.T.builtins G.T.nolimit hg hT nT C G.T.bmain hobj hints (Nat.le_trans hlen hn2) hr hF hb fun H hH hS => hsp H a ns hlen hbits hH hS
end SWL
set_option Elab.async false
set_option linter.all false
set_option maxRecDepth 100000
set_option maxHeartbeats 4000000
namespace SWL
open PySem PySem.Spec PyProof.Rows L2 LamX
/-! f(k = v, ..) without a positional value; comprehensions whose turns only grow the heap -/
section
variable {X : Cx} {CX : CXT} {k : Nat} {f : Addr} {fd : FuncData} {ps ks : List Str} {sp : Sp} {E : XK} {x : Str} {p pos : Pos} {kws : List Keyword} {tk : TA} {g : List Value → List Value → List Value} {gV : List V → List V → List V}
def tKw (sp : Sp) (gV : List V → List V → List V) (E : XK) (tk : TA) : TE := fun σ H Q => tk σ H fun zs H2 => sp (gV [] zs) H2 Q E
theorem pe_kwCall (F : FnOk X.prog X.w X.K X.mg X.base CX k f fd ps sp) (hr : Room k X.A) (hg : Gl X x) (hm : X.mg x = some (.ref f)) (hk : PySem.W.keepIn X.K (.ref f) = true) (hb : KBinds X.K fd ps ks g gV) (hx : Passes CX X E)
    (hkw : PK X kws tk) (hall : (backToKw pos (keywordEach kws X.env)).all (·.1.isSome) = true := by rfl) (hks : (backToKw pos (keywordEach kws X.env)).filterMap (·.1) = ks := by rfl)
    (hdb : (x == ("__debug__" : Str)) = false := by decide)
    (hpl : ((backTo pos (starEach [] X.env)).any (·.1) || (backToKw pos (keywordEach kws X.env)).any (·.1.isNone)) = false := by rfl) :
    PE X (.Call (.Name x p) [] kws pos) (tKw sp gV E tk) := by
  constructor
  intro pins s σ H Q I h
  refine wpAny_Call_Name_kw (ld_glob I hg hm (PySem.W.callWith_KW0 (h₀ := X.base) I.ok.mod.kin hk hall ?_ hpl) hdb)
  refine thn (hkw.run pos pins s σ H _ I h) fun ws s2 ⟨zs, H2, I2, rz, q2⟩ => ⟨I2.kIn, ?_⟩
  rw [hks]
  exact run_fnk (us := []) (vs := []) F hr hb hx I2 .nil rz q2
end
theorem take_snoc {α : Type} : ∀ {l : List α} {i : Nat} {x : α}, l[i]? = some x → l.take (i + 1) = l.take i ++ [x] := fun {l i x} h => by rw [List.take_add_one, h]; rfl
theorem compF {J : It} {G : Hp → Prop} {xs : List V} (w : Walk J xs.length G (YAt xs)) (p : V → Bool) (f : V → V) {i : Nat} {tt : TT} {te : TE} {σ : L2.St} {H1 : Hp} {D : Addr} {Qd : Hp → Prop} (nD : H1 D = none) (hG : ∀ H, Grows H1 H → G H) (hz : (xs.filter p).length ≤ sizeLine)
    (htt : ∀ x H k, x ∈ xs → Grows H1 H → (∀ H', Grows H H' → k (p x) H') → tt ((σ.set i none).set i (some x)) H k)
    (hte : ∀ x H Q, x ∈ xs → p x = true → Grows H1 H → (∀ H', Grows H H' → Q (f x) H') → te ((σ.set i none).set i (some x)) H Q)
    (hd : ∀ H, Grows H1 H → H D = some (.lst ((xs.filter p).map f)) → Qd H) :
    ∃ W : Nat → Nat → Hp → Prop, (∃ m, W 0 m (upd H1 D (.lst []))) ∧ ∀ n m H, W n m H →
      (J.stop n H ∧ Qd H) ∨ (J.go n H ∧ ∃ Nx : Hp → Prop, (∀ H', Nx H' → ∃ m', m' < m ∧ W (n + 1) m' H') ∧ ∀ x H', J.yld n H x H' → gName i x (wipe σ [i]) H' fun σ2 H2 => wipe σ2 [i] = wipe σ [i] ∧ tt σ2 H2 fun b H3 =>
        if b = true then te σ2 H3 fun y H4 => ∃ acc, H4 D = some (.lst acc) ∧ acc.length < sizeLine ∧ Nx (upd H4 D (.lst (acc ++ [y]))) else Nx H3) := by
  have gU : ∀ {H : Hp} {o : HO}, Grows H1 H → Grows H1 (upd H D o) := fun g b u e => by
    rw [upd_ne (ne_of_none e nD)]
    exact g b u e
  refine lc_it w (fun n H => Grows H1 H ∧ H D = some (.lst (((xs.take n).filter p).map f))) ⟨Grows.new nD, by rw [upd_same]; rfl⟩ (fun n H _ h => hG H h.1) (fun n x H H' hn ⟨g, hD⟩ ⟨e, hx⟩ => ?_) fun H ⟨g, hD⟩ => hd H g (by rw [List.take_length] at hD; exact hD)
  subst e
  have hm : x ∈ xs := List.mem_of_getElem? hx
  refine ⟨by show (((σ.set i none).set i (some x)).set i none) = σ.set i none; simp, ?_⟩
  refine htt x H' _ hm g fun H2 g2 => ?_
  have et : ((xs.take (n + 1)).filter p).map f = ((xs.take n).filter p).map f ++ (if p x = true then [f x] else []) := by
    rw [take_snoc hx, List.filter_append, List.map_append]
    by_cases hp : p x = true <;> simp [hp]
  by_cases hp : p x = true
  · rw [if_pos hp]
    refine hte x H2 _ hm hp (g.trans g2) fun H3 g3 => ?_
    refine ⟨_, g3 _ _ (g2 _ _ hD), ?_, gU ((g.trans g2).trans g3), ?_⟩
    · rw [List.length_map]
      have hs : ((xs.take (n + 1)).filter p).length ≤ (xs.filter p).length := ((List.take_sublist (n + 1) xs).filter p).length_le
      rw [take_snoc hx, List.filter_append, List.length_append] at hs
      have h1 : ([x].filter p).length = 1 := by simp [hp]
      omega
    · rw [upd_same, et, if_pos hp]
  · rw [if_neg hp]
    refine ⟨g.trans g2, ?_⟩
    rw [et, if_neg hp, List.append_nil]
    exact g2 _ _ hD
theorem comp {J : It} {G : Hp → Prop} {xs : List V} (w : Walk J xs.length G (YAt xs)) (p : V → Bool) (f : V → V) {i : Nat} {tt : TT} {te : TE} {σ : L2.St} {H1 : Hp} {D : Addr} {Qd : Hp → Prop} (nD : H1 D = none) (hG : ∀ H, Grows H1 H → G H) (hz : xs.length ≤ sizeLine)
    (htt : ∀ x H k, x ∈ xs → Grows H1 H → (∀ H', Grows H H' → k (p x) H') → tt ((σ.set i none).set i (some x)) H k)
    (hte : ∀ x H Q, x ∈ xs → p x = true → Grows H1 H → (∀ H', Grows H H' → Q (f x) H') → te ((σ.set i none).set i (some x)) H Q)
    (hd : ∀ H, Grows H1 H → H D = some (.lst ((xs.filter p).map f)) → Qd H) :
    ∃ W : Nat → Nat → Hp → Prop, (∃ m, W 0 m (upd H1 D (.lst []))) ∧ ∀ n m H, W n m H →
      (J.stop n H ∧ Qd H) ∨ (J.go n H ∧ ∃ Nx : Hp → Prop, (∀ H', Nx H' → ∃ m', m' < m ∧ W (n + 1) m' H') ∧ ∀ x H', J.yld n H x H' → gName i x (wipe σ [i]) H' fun σ2 H2 => wipe σ2 [i] = wipe σ [i] ∧ tt σ2 H2 fun b H3 =>
        if b = true then te σ2 H3 fun y H4 => ∃ acc, H4 D = some (.lst acc) ∧ acc.length < sizeLine ∧ Nx (upd H4 D (.lst (acc ++ [y]))) else Nx H3) :=
  compF w p f nD hG (Nat.le_trans (List.length_filter_le p xs) hz) htt hte hd
/-- the signs of a text -/
theorem walk_signs (z : Str) : Walk (Its z) (signsV z).length (fun _ => True) (YAt (signsV z)) := by
  have hn : (signsV z).length = z.cps.size := by unfold signsV; simp
  rw [hn]
  refine walk_str.mono (fun _ _ => trivial) fun i H x H' hi _ ⟨e, c, hc, ex⟩ => ⟨e, ?_⟩
  unfold signsV
  rw [List.getElem?_map, Array.getElem?_toList, hc, ex]
  rfl
theorem signs_len (z : Str) : (signsV z).length = z.length := by
  unfold signsV
  rw [List.length_map, Array.length_toList]
  rfl
theorem signs_mem {z : Str} {x : V} (h : x ∈ signsV z) : ∃ c, c ∈ z.cps.toList ∧ x = .str ⟨#[c]⟩ := by
  obtain ⟨c, hc, rfl⟩ := List.mem_map.mp h
  exact ⟨c, hc, rfl⟩
theorem filter_yes {α : Type} (l : List α) : l.filter (fun _ => true) = l := List.filter_eq_self.mpr fun _ _ => rfl
end SWL
set_option Elab.async false
set_option linter.all false
set_option maxRecDepth 100000
set_option maxHeartbeats 4000000
namespace SWL
open PySem PySem.Spec PyProof.Rows L2 LamX
/-! a comprehension over zip(text, text) -/
theorem walk_pairs (x y : Str) : Walk (PairsS x y) (x.cps.toList.zip y.cps.toList).length (fun _ => True) (fun i H v H' => ∃ (T : Addr) (c d : Nat), v = .ref T ∧ H T = none ∧ H' = upd H T (.tup [.str ⟨#[c]⟩, .str ⟨#[d]⟩]) ∧ (x.cps.toList.zip y.cps.toList)[i]? = some (c, d)) := by
  have hn : (x.cps.toList.zip y.cps.toList).length = min x.cps.size y.cps.size := by simp
  rw [hn]
  refine ⟨fun _ _ hi _ => hi, fun _ _ => rfl, fun i H v H' hi _ q => ?_⟩
  obtain ⟨T, c, d, h1, h2, h3, h4, h5⟩ := q
  exact ⟨T, c, d, h1, h2, h3, List.getElem?_zip_eq_some.mpr ⟨by rw [Array.getElem?_toList]; exact h4, by rw [Array.getElem?_toList]; exact h5⟩⟩
theorem compZ {K : PySem.W.Frag} {x y : Str} (f : Nat × Nat → V) {i j : Nat} {te : TE} {σ : L2.St} {H1 : Hp} {D : Addr} {Qd : Hp → Prop} (nD : H1 D = none) (hij : i ≠ j) (hz : x.length ≤ sizeLine)
    (hte : ∀ c d H Q, (c, d) ∈ x.cps.toList.zip y.cps.toList → Grows H1 H → (∀ H', Grows H H' → Q (f (c, d)) H') → te ((((σ.set j none).set i none).set i (some (.str ⟨#[c]⟩))).set j (some (.str ⟨#[d]⟩))) H Q)
    (hd : ∀ H, Grows H1 H → H D = some (.lst ((x.cps.toList.zip y.cps.toList).map f)) → Qd H) :
    ∃ W : Nat → Nat → Hp → Prop, (∃ m, W 0 m (upd H1 D (.lst []))) ∧ ∀ n m H, W n m H →
      ((PairsS x y).stop n H ∧ Qd H) ∨ ((PairsS x y).go n H ∧ ∃ Nx : Hp → Prop, (∀ H', Nx H' → ∃ m', m' < m ∧ W (n + 1) m' H') ∧ ∀ x' H', (PairsS x y).yld n H x' H' → gTup K 2 (gCons (gName i) (gCons (gName j) gNil)) x' (wipe σ [i, j]) H' fun σ2 H2 => wipe σ2 [i, j] = wipe σ [i, j] ∧ tYes σ2 H2 fun b H3 =>
        if b = true then te σ2 H3 fun y H4 => ∃ acc, H4 D = some (.lst acc) ∧ acc.length < sizeLine ∧ Nx (upd H4 D (.lst (acc ++ [y]))) else Nx H3) := by
  have gU : ∀ {H : Hp} {o : HO}, Grows H1 H → Grows H1 (upd H D o) := fun g b u e => by
    rw [upd_ne (ne_of_none e nD)]
    exact g b u e
  refine lc_it (walk_pairs x y) (fun n H => Grows H1 H ∧ H D = some (.lst (((x.cps.toList.zip y.cps.toList).take n).map f))) ⟨Grows.new nD, by rw [upd_same]; rfl⟩ (fun n H _ h => trivial) (fun n v H H' hn ⟨g, hD⟩ ⟨T, c, d, hv, hT, hH', hcd⟩ => ?_) fun H ⟨g, hD⟩ => hd H g (by rw [List.take_length] at hD; exact hD)
  subst hH'
  have gT : Grows H (upd H T (.tup [.str ⟨#[c]⟩, .str ⟨#[d]⟩])) := Grows.new hT
  refine ⟨T, _, hv, .inl (.inl upd_same), rfl, _, _, rfl, _, _, rfl, rfl, ?_, ?_⟩
  · show (((((σ.set j none).set i none).set i _).set j _).set j none).set i none = (σ.set j none).set i none
    simp only [List.set_set]
    rw [List.set_comm _ _ hij]
    simp only [List.set_set]
  · refine hte c d _ _ (List.mem_of_getElem? hcd) (g.trans gT) fun H3 g3 => ?_
    refine ⟨_, g3 _ _ (gT _ _ hD), ?_, gU ((g.trans gT).trans g3), ?_⟩
    · rw [List.length_map, List.length_take]
      have : (x.cps.toList.zip y.cps.toList).length ≤ x.length := by
        rw [List.length_zip, Array.length_toList]
        exact Nat.min_le_left _ _
      omega
    · rw [upd_same, take_snoc hcd, List.map_append]
      rfl
end SWL
set_option Elab.async false
set_option linter.all false
set_option maxRecDepth 100000
set_option maxHeartbeats 4000000
namespace SWL
open PySem PySem.Spec PyProof.Rows L2 LamX
/-! enumerate(tuple); text * int -/
def IteT (K : PySem.W.Frag) (a : Addr) : It :=
  ⟨fun i H => ∃ (xs : List V) (x : V), SqT K H a xs ∧ xs[i]? = some x, fun i H v H' => ∃ T x, v = .ref T ∧ H T = none ∧ H' = upd H T (.tup [.int (i : Nat), x]) ∧ ∀ xs, SqT K H a xs → xs[i]? = some x, fun i H => ∃ xs : List V, SqT K H a xs ∧ xs.length = i⟩
theorem turn_enumT {P : Program} {w : World} {K : PySem.W.Frag} {elts : List Expr} {kk : Nat} {tpos : Pos} (a e it : Addr) :
    Turn P w K (.Tuple elts kk tpos) (IteT K a) [e, it] e (fun i h => (∃ old, IsEnum h e it (0 + ((i : Nat) : Int)) old) ∧ h.IsTupleIter it a i ∧ e ≠ it ∧ a ≠ it ∧ e ≠ a) where
  mem := by simp
  obj := fun i h st b hb => by
    obtain ⟨⟨old, he⟩, ⟨o, ho, hc, hd⟩, _⟩ := st
    rcases (by simpa using hb : b = e ∨ b = it) with z | z
    · exact ⟨_, by rw [z]; exact he, fun v q => by cases q⟩
    · exact ⟨o, by rw [z]; exact ho, fun v q => by rw [hd] at q; cases q⟩
  keep := fun i h h' st k => let ⟨⟨old, he⟩, hi, hne⟩ := st; ⟨⟨old, k e (by simp) _ he⟩, hi.at fun o q => k it (by simp) o q, hne⟩
  item := by
    intro X hP hw hK hc i pins s σ H E I hf st hg
    subst hP hw hK
    have hh : X.A.handled = none := I.ok.hd hc
    obtain ⟨xs, x, hq, hx⟩ := hg
    obtain ⟨its, rv, p, hz⟩ := I.tuple hq
    obtain ⟨he, hit, hne, hai, hea⟩ := st
    have G := GoesN.enumFrom (elts := elts) (x1 := kk) (pos := tpos) 0 (Draws.tuple (prog := X.prog) (w := X.w) (A := X.A.in1) hh it a hai its.toArray) e hne (by simp [hne, hea]) (by simp)
    have hlt : i < its.toArray.size := by
      have := (List.getElem?_eq_some_iff.mp hx).1
      have := rv.length
      simp
      omega
    refine G.goes i s _ E hlt ⟨he, hit, p⟩ fun v h' tk hY st' hk _ => ?_
    obtain ⟨T, t, u, rfl, hT, hu, hTup⟩ := hY
    have fr : H T = none := I.hok.fresh hT
    have ru : RelV x u := by
      obtain ⟨u', hu', ru⟩ := rv.get hx
      have e : its.toArray[i]? = some u' := by simpa using hu'
      rw [e] at hu
      cases hu
      exact ru
    refine ⟨.ref T, upd H T (.tup [.int (i : Nat), x]), I.turnedNew (t' := tk) (ch := [e, it]) hk hf hT ?_, rfl, ⟨T, x, rfl, fr, rfl, fun ys hy => by rw [I.tuple_inj hy hq]; exact hx⟩, ⟨st'.1, st'.2.1, hne, hai, hea⟩, fun b hb => ?_⟩
    · refine ⟨by show 2 ≤ sizeLine; decide, _, .cons ⟨t, ?_⟩ (.cons ru .nil), hTup⟩
      rw [Int.zero_add]
    · have hlt2 : b < s.heap.objs.size := by
        obtain ⟨old, he⟩ := he
        obtain ⟨o, ho, _⟩ := hit
        rcases (by simpa using hb : b = e ∨ b = it) with z | z
        · rw [z]; exact Heap.lt_size he
        · rw [z]; exact Heap.lt_size ho
      rw [upd_ne (Nat.ne_of_lt (Nat.lt_of_lt_of_le hlt2 hT))]
      exact (hf b hb).1
  done := by
    intro X hP hw hK hc i pins s σ H E I hf st hg
    subst hP hw hK
    have hh : X.A.handled = none := I.ok.hd hc
    obtain ⟨xs, hq, hx⟩ := hg
    obtain ⟨its, rv, p, hz⟩ := I.tuple hq
    obtain ⟨he, hit, hne, hai, hea⟩ := st
    have G := GoesN.enumFrom (elts := elts) (x1 := kk) (pos := tpos) 0 (Draws.tuple (prog := X.prog) (w := X.w) (A := X.A.in1) hh it a hai its.toArray) e hne (by simp [hne, hea]) (by simp)
    have hi : i = its.toArray.size := by
      have := rv.length
      simp
      omega
    rw [hi] at he hit
    exact G.stops s _ E ⟨he, hit, p⟩ fun h' tk hk _ => I.turnedL (t' := tk) (ch := [e, it]) hk hf
  self := fun A i s Q E st h => let ⟨⟨_, he⟩, _⟩ := st; wpAny_pyIter_enum he h
set_option maxHeartbeats 8000000 in
theorem meets_enum1 {v : Value} {o : Obj} {I : Heap → Prop} (B : Begins v o I) : Meets (Builtin.«enumerate.__new__» ⟨[.type "enumerate", v], []⟩) (fun _ R s => I s.heap ∧
      R (.ok (.ret (.ref (s.heap.push o).objs.size))) { s with heap := (s.heap.push o).push { cls := .type "enumerate", data := .fields #[.none, .bool false, .ref s.heap.objs.size, rawInt 0, .none, .none] } }) :=
  .of_wp fun prog w A R s h => by
    obtain ⟨hp, g, d, tk, os⟩ := s
    obtain ⟨h1, h⟩ := h
    have hsub := sub_enumerate
    have beg : ∀ {A' : Around} {E : Value → Shared → Prop} {Q : Value → Shared → Prop}, Q (.ref hp.objs.size) ⟨hp.push o, g, d, tk, os⟩ → wpAny (model prog w) A' (pyIter v) Q E ⟨hp, g, d, tk, os⟩ := fun q => B.iter prog w _ _ ⟨hp, g, d, tk, os⟩ _ h1 q
    wp_walk using beg
    refine wpAny_stack_any fun st => wpAny_pure ?_
    split
    · rename_i c _ _ _ _ _
      cases (c == Value.type "enumerate")
      · wp_walk using beg
        exact ⟨_, rfl, h⟩
      · wp_walk using beg
        exact ⟨_, rfl, h⟩
    · wp_walk using beg
      exact ⟨_, rfl, h⟩
theorem call_enum1 {prog : Program} {w : World} {A : Around} {E : Value → Shared → Prop} {s : Shared} {v : Value} {o : Obj} {I : Heap → Prop} {Q : Value → Shared → Prop} (B : Begins v o I) (h1 : I s.heap)
    (h : ∀ h', IsEnum h' (s.heap.objs.size + 1) s.heap.objs.size 0 .none → h'.get? s.heap.objs.size = some o → (∀ b o, s.heap.get? b = some o → h'.get? b = some o) → Q (.ref (s.heap.objs.size + 1)) { s with heap := h' }) :
    wpAny (model prog w) A (call (.type "enumerate") [v]) Q E s := by
  refine callType_new F.called_enumerate (by decide) (F.typeCall_enumerate_1 _) (F.newCall_enumerate_1 _) (fun obj => F.args_object_init_2 obj _) F.entry_enumerate_new (meets_enum1 B) ⟨h1, ?_⟩
  have hz : (s.heap.push o).objs.size = s.heap.objs.size + 1 := Heap.size_push ..
  show _ ∧ _
  rw [hz]
  have he : IsEnum ((s.heap.push o).push { cls := .type "enumerate", data := .fields #[.none, .bool false, .ref s.heap.objs.size, rawInt 0, .none, .none] }) (s.heap.objs.size + 1) s.heap.objs.size 0 .none := by
    have q := Heap.get?_push_size (s.heap.push o) (o := { cls := .type "enumerate", data := .fields #[.none, .bool false, .ref s.heap.objs.size, rawInt 0, .none, .none] }) rfl
    rw [hz] at q
    exact q
  exact ⟨⟨_, he, rfl⟩, h _ he (Heap.get?_push_of_some _ (Heap.get?_push_size _ B.free)) fun b o x => Heap.get?_push_of_some _ (Heap.get?_push_of_some _ x)⟩
def iEnumT (K : PySem.W.Frag) (ta : TA) : TI := fun σ H R => ta σ H fun vs H1 => ∃ a xs, vs = [.ref a] ∧ SqT K H1 a xs ∧ R (IteT K a) H1
theorem pi_enumT {X : Cx} {e : Expr} {ta : TA} {p pos tpos : Pos} {elts : List Expr} {kk : Nat} (hg : Gl X "enumerate") (hm : X.mg "enumerate" = none) (ha : PA X [e] ta) (hs : starEach [e] X.env = [(false, eval e X.env)] := by rfl) :
    PI X (.Tuple elts kk tpos) (.Call (.Name "enumerate" p) [e] [] pos) (iEnumT X.K ta) := by
  refine ⟨fun pins s σ H R I h => ?_⟩
  refine Call_ (ld_blt I hg hm boot_enumerate (PyProof.Rows.callWith_type1 (thn (ha.run pos pins s σ H _ I h) fun us s1 ⟨vs, H1, I1, r1, q1⟩ => ?_) hs rfl))
  obtain ⟨a, xs, rfl, hq, q⟩ := q1
  obtain ⟨u, rfl, ru⟩ := vals1 r1
  cases ru
  obtain ⟨its, rv, p', hz⟩ := I1.tuple hq
  refine call_enum1 (begins_tuple a its.toArray) p' fun h' he hit hk => wpAny_pyIter_enum he ?_
  have I2 : Inv X pins σ H1 { s1 with heap := h' } := I1.kept (t' := s1.toks) hk
  have hal : a < s1.heap.objs.size := by
    obtain ⟨o, ho, _⟩ := p'
    exact Heap.lt_size ho
  refine ⟨s1.heap.objs.size + 1, [s1.heap.objs.size + 1, s1.heap.objs.size], _, _, H1, rfl, I2, turn_enumT a (s1.heap.objs.size + 1) s1.heap.objs.size, ⟨⟨.none, by rw [Int.zero_add]; exact he⟩, ⟨_, hit, rfl, rfl⟩, Nat.succ_ne_self _, Nat.ne_of_lt hal, Nat.ne_of_gt (Nat.lt_succ_of_lt hal)⟩, fun b hb => ?_, q⟩
  have hle : s1.heap.objs.size ≤ b := by
    rcases (by simpa using hb : b = s1.heap.objs.size + 1 ∨ b = s1.heap.objs.size) with z | z <;> rw [z] <;> first | exact Nat.le_add_right _ _ | exact Nat.le_refl _
  exact I1.fpOk hle (I1.hok.fresh hle)
theorem walk_enumT {K : PySem.W.Frag} {a : Addr} {xs : List V} : Walk (IteT K a) xs.length (fun H => SqT K H a xs) (YPair (fun i => some (.int (i : Nat))) (fun i => xs[i]?)) := by
  refine ⟨fun i _ hi q => ⟨xs, xs[i], q, by simp [hi]⟩, fun _ q => ⟨xs, q, rfl⟩, fun i H v H' _ q y => ?_⟩
  obtain ⟨T, x, h1, h2, h3, h4⟩ := y
  exact ⟨T, .int (i : Nat), x, h1, h2, h3, rfl, h4 xs q⟩
theorem op_mulS {X : Cx} : OpR X (binaryOp .Mult) (fun x y H Q => ∃ (z : Str) (n : Nat), x = .str z ∧ y = .int n ∧ n ≤ 1000000 ∧ z.length * n ≤ 1000000 ∧ Q (.str (Txt.mul z n)) H) := by
  intro pins s σ H x y v u Q I rx ry h
  obtain ⟨z, n, rfl, rfl, hn, hz, q⟩ := h
  obtain ⟨t, rfl⟩ := rx
  obtain ⟨t', rfl⟩ := ry
  have b0 : (0 : Int) ≤ n := Int.natCast_nonneg n
  have b1 : (n : Int) ≤ 1000000 := by omega
  have c1 : ¬ ((n : Int) < -(2 ^ 63 : Int)) := fun h => absurd (Int.lt_of_le_of_lt b0 h) (by decide)
  have c2 : ¬ ((n : Int) ≥ 2 ^ 63) := fun h => absurd (Int.le_trans h b1) (by decide)
  refine SB.mul ⟨Bool.or_eq_false_iff.mpr ⟨decide_eq_false c1, decide_eq_false c2⟩, fun h1 _ h2 => ?_, fun h1 _ => ?_⟩ fun t2 k => ⟨.str (Txt.mul z n), H, I.kept (t' := k) fun _ _ e => e, ⟨t2, rfl⟩, q⟩
  · have h3 : (1 : Int) ≤ n := by omega
    have hn0 : (0 : Int) < n := by omega
    have h5 : ((z.length * n : Nat) : Int) ≤ 1000000 := by omega
    rw [Int.natCast_mul] at h5
    have h6 : ((2 : Int) ^ 63 - 1) / n * n ≤ 2 ^ 63 - 1 := Int.ediv_mul_le _ (by omega)
    have h7 : ((2 : Int) ^ 63 - 1) < (((2 : Int) ^ 63 - 1) / n + 1) * n := Int.lt_ediv_add_one_mul_self _ hn0
    have h8 : (((2 : Int) ^ 63 - 1) / n + 1) * n ≤ z.length * n := Int.mul_le_mul_of_nonneg_right (by omega) (by omega)
    omega
  · rw [Int.toNat_natCast]
    have e : sizeLine = 16777216 := sizeLine_eq
    exact decide_eq_false (by omega)
theorem mul_cps (z : Str) (n : Nat) : (Txt.mul z n).cps.toList = (List.replicate n z.cps.toList).flatten := by
  have fold : ∀ (n : Nat) (acc : Array Nat), ((List.replicate n z.cps).foldl (· ++ ·) acc).toList = acc.toList ++ (List.replicate n z.cps.toList).flatten := by
    intro n
    induction n with
    | zero => intro acc; simp
    | succ n ih =>
      intro acc
      rw [List.replicate_succ, List.foldl_cons, ih, List.replicate_succ, List.flatten_cons, Array.toList_append, List.append_assoc]
  unfold Txt.mul
  by_cases h : (n : Int) < 1
  · have : n = 0 := by omega
    subst this
    rw [if_pos h]
    rfl
  · rw [if_neg h]
    by_cases h2 : ((n : Int) == 1 || z.length == 0) = true
    · rw [if_pos h2]
      simp only [Bool.or_eq_true, beq_iff_eq] at h2
      rcases h2 with h2 | h2
      · have : n = 1 := by omega
        subst this
        simp
      · have : z.cps.toList = [] := List.length_eq_zero_iff.mp (by rw [Array.length_toList]; exact h2)
        rw [this]
        simp
    · rw [if_neg h2, Int.toNat_natCast]
      have := fold n #[]
      simpa using this
end SWL
set_option Elab.async false
set_option linter.all false
set_option maxRecDepth 100000
set_option maxHeartbeats 4000000
namespace SWL
open PySem PySem.Spec PyProof.Rows L2 LamX
/-! a list display over things of which more is known than their values -/
theorem compT {α : Type} {J : It} {G : Hp → Prop} {I : List α} {gv : α → V} (w : Walk J I.length G (YAt (I.map gv))) (p : α → Bool) (f : α → V) {own : List Nat} {g : TG} {tt : TT} {te : TE} {σ : L2.St} (τ : α → L2.St) {H1 : Hp} {D : Addr} {Qd : Hp → Prop} (nD : H1 D = none)
    (hG : ∀ H, Grows H1 H → G H) (hz : I.length ≤ sizeLine)
    (hgt : ∀ q H Q, q ∈ I → Grows H1 H → Q (τ q) H → g (gv q) (wipe σ own) H Q) (hw : ∀ q, wipe (τ q) own = wipe σ own)
    (htt : ∀ q H k, q ∈ I → Grows H1 H → (∀ H', Grows H H' → k (p q) H') → tt (τ q) H k)
    (hte : ∀ q H Q, q ∈ I → p q = true → Grows H1 H → (∀ H', Grows H H' → Q (f q) H') → te (τ q) H Q)
    (hd : ∀ H, Grows H1 H → H D = some (.lst ((I.filter p).map f)) → Qd H) :
    ∃ W : Nat → Nat → Hp → Prop, (∃ m, W 0 m (upd H1 D (.lst []))) ∧ ∀ n m H, W n m H →
      (J.stop n H ∧ Qd H) ∨ (J.go n H ∧ ∃ Nx : Hp → Prop, (∀ H', Nx H' → ∃ m', m' < m ∧ W (n + 1) m' H') ∧ ∀ x H', J.yld n H x H' → g x (wipe σ own) H' fun σ2 H2 => wipe σ2 own = wipe σ own ∧ tt σ2 H2 fun b H3 =>
        if b = true then te σ2 H3 fun y H4 => ∃ acc, H4 D = some (.lst acc) ∧ acc.length < sizeLine ∧ Nx (upd H4 D (.lst (acc ++ [y]))) else Nx H3) := by
  have gU : ∀ {H : Hp} {o : HO}, Grows H1 H → Grows H1 (upd H D o) := fun g b u e => by
    rw [upd_ne (ne_of_none e nD)]
    exact g b u e
  refine lc_it w (fun n H => Grows H1 H ∧ H D = some (.lst (((I.take n).filter p).map f))) ⟨Grows.new nD, by rw [upd_same]; rfl⟩ (fun n H _ h => hG H h.1) (fun n x H H' hn ⟨g1, hD⟩ ⟨e, hx⟩ => ?_) fun H ⟨g1, hD⟩ => hd H g1 (by rw [List.take_length] at hD; exact hD)
  subst e
  rw [List.getElem?_map] at hx
  obtain ⟨q, hq, rfl⟩ : ∃ q, I[n]? = some q ∧ x = gv q := by
    cases e : I[n]? with
    | none => rw [e] at hx; cases hx
    | some q => rw [e] at hx; exact ⟨q, rfl, (Option.some.inj hx).symm⟩
  have hm : q ∈ I := List.mem_of_getElem? hq
  refine hgt q H' _ hm g1 ⟨hw q, ?_⟩
  refine htt q H' _ hm g1 fun H2 g2 => ?_
  have et : ((I.take (n + 1)).filter p).map f = ((I.take n).filter p).map f ++ (if p q = true then [f q] else []) := by
    rw [take_snoc hq, List.filter_append, List.map_append]
    by_cases hp : p q = true <;> simp [hp]
  by_cases hp : p q = true
  · rw [if_pos hp]
    refine hte q H2 _ hm hp (g1.trans g2) fun H3 g3 => ?_
    refine ⟨_, g3 _ _ (g2 _ _ hD), ?_, gU ((g1.trans g2).trans g3), ?_⟩
    · rw [List.length_map]
      have hs : ((I.take (n + 1)).filter p).length ≤ (I.filter p).length := ((List.take_sublist (n + 1) I).filter p).length_le
      rw [take_snoc hq, List.filter_append, List.length_append] at hs
      have h1 : ([q].filter p).length = 1 := by simp [hp]
      have h2 := List.length_filter_le p I
      omega
    · rw [upd_same, et, if_pos hp]
  · rw [if_neg hp]
    refine ⟨g1.trans g2, ?_⟩
    rw [et, if_neg hp, List.append_nil]
    exact g2 _ _ hD
theorem comp1 {α : Type} {J : It} {G : Hp → Prop} {I : List α} {gv : α → V} (w : Walk J I.length G (YAt (I.map gv))) (p : α → Bool) (f : α → V) {i : Nat} {tt : TT} {te : TE} {σ : L2.St} {H1 : Hp} {D : Addr} {Qd : Hp → Prop} (nD : H1 D = none)
    (hG : ∀ H, Grows H1 H → G H) (hz : I.length ≤ sizeLine)
    (htt : ∀ q H k, q ∈ I → Grows H1 H → (∀ H', Grows H H' → k (p q) H') → tt ((σ.set i none).set i (some (gv q))) H k)
    (hte : ∀ q H Q, q ∈ I → p q = true → Grows H1 H → (∀ H', Grows H H' → Q (f q) H') → te ((σ.set i none).set i (some (gv q))) H Q)
    (hd : ∀ H, Grows H1 H → H D = some (.lst ((I.filter p).map f)) → Qd H) :
    ∃ W : Nat → Nat → Hp → Prop, (∃ m, W 0 m (upd H1 D (.lst []))) ∧ ∀ n m H, W n m H →
      (J.stop n H ∧ Qd H) ∨ (J.go n H ∧ ∃ Nx : Hp → Prop, (∀ H', Nx H' → ∃ m', m' < m ∧ W (n + 1) m' H') ∧ ∀ x H', J.yld n H x H' → gName i x (wipe σ [i]) H' fun σ2 H2 => wipe σ2 [i] = wipe σ [i] ∧ tt σ2 H2 fun b H3 =>
        if b = true then te σ2 H3 fun y H4 => ∃ acc, H4 D = some (.lst acc) ∧ acc.length < sizeLine ∧ Nx (upd H4 D (.lst (acc ++ [y]))) else Nx H3) :=
  compT w p f (own := [i]) (g := gName i) (fun q => (σ.set i none).set i (some (gv q))) nD hG hz (fun q H Q _ _ h => h) (fun q => by show (((σ.set i none).set i (some (gv q))).set i none) = σ.set i none; simp) htt hte hd
end SWL
set_option Elab.async false
set_option linter.all false
set_option maxRecDepth 100000
set_option maxHeartbeats 4000000
namespace SWL
open PySem PySem.Spec PyProof.Rows L2
/-! repr of any plain data -/
def askReprD (K : PySem.W.Frag) : List V → Hp → VK → Prop := fun xs H Q =>
  ∃ (x : V) (d : PyData), xs = [x] ∧ Dp K H x d ∧ d.showable = true ∧ d.hasDict = false ∧ d.depth ≤ 50 ∧ d.shown.length ≤ sizeLine ∧ Q (.str d.shown) H
section
variable {X : Cx}
theorem cr_reprD (gd : X.A.guards = some []) (hu : X.A.units + 64 < cLine) : CallR X (.builtin "repr") (askReprD X.K) := by
  intro pins s σ H xs us Q I rel q
  obtain ⟨x, d, rfl, hd, hs, hn, hdep, hlen, q⟩ := q
  have tk : ∀ {t : Tok}, Inv X pins σ H { s with toks := t } := fun {t} => I.kept (t' := t) (h' := s.heap) fun _ _ e => e
  have byRef : ∀ a, x = .ref a → _ := fun a (e : x = .ref a) => by
    subst e
    exact cr_repr gd hu pins s σ H _ us Q I rel ⟨a, d, rfl, hd, hs, hn, hdep, hlen, q⟩
  cases hd with
  | lst h1 h2 => exact byRef _ rfl
  | tup h1 h2 => exact byRef _ rfl
  | non =>
    obtain ⟨u, rfl, ru⟩ := vals1 rel
    cases ru
    exact PySem.P.repr_of_none ⟨.str (PyData.shown _), H, tk, ⟨_, rfl⟩, q⟩
  | bl b =>
    obtain ⟨u, rfl, ru⟩ := vals1 rel
    cases ru
    exact PySem.P.repr_of_bool ⟨.str (PyData.shown _), H, tk, ⟨_, rfl⟩, q⟩
  | int i =>
    obtain ⟨u, rfl, t, rfl⟩ := vals1 rel
    exact PySem.P.repr_of_int (of_decide_eq_true hs) ⟨.str (PyData.shown _), H, tk, ⟨_, rfl⟩, q⟩
  | str z =>
    obtain ⟨u, rfl, t, rfl⟩ := vals1 rel
    exact PySem.P.repr_of_str ⟨.str (PyData.shown _), H, tk, ⟨_, rfl⟩, q⟩ hlen
end
end SWL
set_option Elab.async false
set_option linter.all false
set_option maxRecDepth 100000
set_option maxHeartbeats 4000000
namespace SWL
open PySem PySem.Spec PyProof.Rows L2 LamX
/-! texts: a letter's first and last place, the text turned about, what is ahead and behind -/
theorem first_at {z : Str} {c : Nat} (hc : c ∈ z.cps.toList) : ∃ i rest, PySem.Builtin.Str.occurrences z ⟨#[c]⟩ 0 z.length 1 = i :: rest ∧ z.cps.toList[i]? = some c ∧ ∀ k, k < i → z.cps.toList[k]? ≠ some c := by
  rcases PySem.StrLaws.occ_head z ⟨#[c]⟩ 1 (Nat.le_refl _) with ⟨_, h⟩ | ⟨i, r, e, h1, h2⟩
  · obtain ⟨i, hi⟩ := List.getElem?_of_mem hc
    exact absurd ((PySem.StrLaws.subAt_one z c i).mpr hi) (h i)
  · exact ⟨i, r, e, (PySem.StrLaws.subAt_one z c i).mp h1, fun k hk z' => h2 k hk ((PySem.StrLaws.subAt_one z c k).mpr z')⟩
theorem last_at {z : Str} {c : Nat} (hc : c ∈ z.cps.toList) : ∃ i, PySem.Builtin.Str.lastOccurrence z ⟨#[c]⟩ 0 z.length = some i ∧ z.cps.toList[i]? = some c ∧ ∀ k, i < k → z.cps.toList[k]? ≠ some c := by
  rcases PySem.StrLaws.last_spec z ⟨#[c]⟩ with ⟨_, h⟩ | ⟨i, e, h1, h2⟩
  · obtain ⟨i, hi⟩ := List.getElem?_of_mem hc
    exact absurd ((PySem.StrLaws.subAt_one z c i).mpr hi) (h i)
  · exact ⟨i, e, (PySem.StrLaws.subAt_one z c i).mp h1, fun k hk z' => h2 k hk ((PySem.StrLaws.subAt_one z c k).mpr z')⟩
section
variable {X : Cx}
theorem mt_index : MtR X "str.index" (fun x xs H Q => ∃ (z : Str) (c : Nat), x = .str z ∧ xs = [.str ⟨#[c]⟩] ∧ c ∈ z.cps.toList ∧ ∀ i : Nat, z.cps.toList[i]? = some c → (∀ k, k < i → z.cps.toList[k]? ≠ some c) → Q (.int (i : Nat)) H) := by
  intro pins s σ H x xs v us Q I rx rs h
  obtain ⟨z, c, rfl, rfl, hc, q⟩ := h
  obtain ⟨t, rfl⟩ := rx
  cases rs with
  | cons r1 rs =>
    cases rs
    obtain ⟨u, rfl⟩ := r1
    obtain ⟨i, rest, e, h1, h2⟩ := first_at hc
    exact call_gives F.slot_str_index (typeIs_str _ _ _) F.entry_str_index (F.args_str_index_2 _ _) (gives_str_index z _ t u i rest e) ⟨.int i, H, I.tok _, ⟨_, rfl⟩, q i h1 h2⟩
theorem mt_rindex : MtR X "str.rindex" (fun x xs H Q => ∃ (z : Str) (c : Nat), x = .str z ∧ xs = [.str ⟨#[c]⟩] ∧ c ∈ z.cps.toList ∧ ∀ i : Nat, z.cps.toList[i]? = some c → (∀ k, i < k → z.cps.toList[k]? ≠ some c) → Q (.int (i : Nat)) H) := by
  intro pins s σ H x xs v us Q I rx rs h
  obtain ⟨z, c, rfl, rfl, hc, q⟩ := h
  obtain ⟨t, rfl⟩ := rx
  cases rs with
  | cons r1 rs =>
    cases rs
    obtain ⟨u, rfl⟩ := r1
    obtain ⟨i, e, h1, h2⟩ := last_at hc
    exact call_gives F.slot_str_rindex (typeIs_str _ _ _) F.entry_str_rindex (F.args_str_rindex_2 _ _) (gives_str_rindex z _ t u i e) ⟨.int i, H, I.tok _, ⟨_, rfl⟩, q i h1 h2⟩
/-- the text turned about -/
def revS (z : Str) : Str := ⟨z.cps.toList.reverse.toArray⟩
theorem rev_slice (z : Str) (u : Tok) : PySem.Txt.sliceBy z none none (-1, u) = revS z := by
  have e := step_rev_list z u
  have e2 : ((List.range z.length).map fun k => z.cps.getD (z.length - 1 - k) 0) = z.cps.toList.reverse := by
    have hl : z.cps.toList.length = z.length := Array.length_toList ..
    refine List.ext_getElem? fun i => ?_
    rw [List.getElem?_map]
    by_cases h : i < z.length
    · rw [List.getElem?_range h, List.getElem?_reverse (by omega), hl]
      have h2 : z.length - 1 - i < z.cps.toList.length := by omega
      rw [List.getElem?_eq_getElem h2]
      have h3 : z.length - 1 - i < z.cps.size := h2
      simp [Array.getD, h3]
    · have h1 : (List.range z.length)[i]? = none := List.getElem?_eq_none_iff.mpr (by rw [List.length_range]; omega)
      have h2 : z.cps.toList.reverse[i]? = none := List.getElem?_eq_none_iff.mpr (by rw [List.length_reverse]; omega)
      rw [h1, h2]
      rfl
  rw [e2] at e
  generalize PySem.Txt.sliceBy z none none (-1, u) = y at e
  unfold revS
  rw [← e]
/-- text[::-1] -/
def tRevS (te : TE) : TE := fun σ H Q => te σ H fun x H1 => ∃ z, x = .str z ∧ z.length ≤ sizeLine ∧ Q (.str (revS z)) H1
theorem pe_revS {e : Expr} {te : TE} {k : Nat} {p1 p2 p3 pos : Pos} (he : PE X e te) : PE X (.Subscript e (.Slice none none (some (.UnaryOp .USub (.Constant (.int 1) k p1) p2)) p3) pos) (tRevS te) := by
  refine ⟨fun pins s σ H Q I h => ?_⟩
  refine Subscript_ (thn (he.run pins s σ H _ I h) fun v s1 ⟨x, H1, I1, r1, z, ex, hz, q⟩ => ?_)
  subst ex
  obtain ⟨t, rfl⟩ := r1
  have hst : PO X (some (.UnaryOp .USub (.Constant (.int 1) k p1) p2)) (tPart (tUn (rU fun i => .int (-i)) (tC (.int 1)))) := po_some (pe_un un_neg pe_int)
  refine wpAny_Slice (thn (po_none.run pins s1 σ H1 (fun o H2 => o = none ∧ H2 = H1) I1 ⟨rfl, rfl⟩) fun vl s2 ⟨l, H2, I2, pl, el, e2⟩ => ?_)
  subst el e2
  refine thn (po_none.run pins s2 σ H2 (fun o H3 => o = none ∧ H3 = H2) I2 ⟨rfl, rfl⟩) fun vu s3 ⟨u, H3, I3, pu, eu, e3⟩ => ?_
  subst eu e3
  refine thn (hst.run pins s3 σ H3 (fun o H4 => o = some (-1) ∧ H4 = H3) I3 ⟨1, rfl, -1, rfl, rfl, rfl⟩) fun vs s4 ⟨o, H4, I4, ps, eo, e4⟩ => ?_
  subst eo e4
  obtain ⟨l, rfl, hl⟩ := IsPart.raw pl
  obtain ⟨u, rfl, hu⟩ := IsPart.raw pu
  obtain ⟨y, rfl, hy⟩ := IsPart.raw ps
  have I5 : Inv X pins σ H4 { s4 with heap := s4.heap.push { cls := .type "slice", data := .fields #[partValue l, partValue u, partValue y] } } := I4.kept (t' := s4.toks) fun b ob q => Heap.get?_push_of_some _ q
  obtain rfl : l = none := by
    cases l with
    | none => rfl
    | some p => cases hl
  obtain rfl : u = none := by
    cases u with
    | none => rfl
    | some p => cases hu
  obtain ⟨ty, rfl⟩ : ∃ ty, y = some (-1, ty) := by
    cases y with
    | none => cases hy
    | some p =>
      obtain ⟨a, b⟩ := p
      cases hy
      exact ⟨b, rfl⟩
  show wpAny (model X.prog X.w) X.A (subscriptTail e (.Slice none none (some (.UnaryOp .USub (.Constant (.int 1) k p1) p2)) p3) (.str z t) (.ref s4.heap.objs.size)) (EP X pins σ Q) X.xe { s4 with heap := s4.heap.push { cls := .type "slice", data := .fields #[.none, .none, .int (-1) ty] } }
  refine tail_any (ops := [.ref s4.heap.objs.size, .str z t]) (typeIs_str _ _ _) F.slot_str_getitem.lookup ?_ (by with_unfolding_all rfl)
  refine wpAny_getItem_str_slice (l := none) (u := none) (st := some (-1, ty)) ⟨_, Heap.get?_push_size _ rfl, rfl, rfl⟩ rfl ?_
  refine post_val_or_str ⟨Nat.le_trans (PySem.Txt.sliceBy_le z none none (-1, ty) (show (-1 : Int) ≠ 0 by decide)) hz, fun t' c => ?_⟩
  refine ⟨.str (revS z), H4, I5.tok c, ⟨t', ?_⟩, q⟩
  rw [← rev_slice z ty]
  rfl
end
end SWL
set_option Elab.async false
set_option linter.all false
set_option maxRecDepth 100000
set_option maxHeartbeats 4000000
namespace SWL
open PySem PySem.Spec PyProof.Rows L2 LamX
/-! set(v): what the filling of the new set does is all that is asked -/
/-- the empty set, as it is made -/
def set0 (w : World) : Obj := { cls := .type "set", dict := none, data := .set #[] 0 (.fresh 0 0 (!w.params.followText "set-order")) }
section
variable {P : Program} {w : World} {A : Around} {E : Value → Shared → Prop} {s : Shared}
theorem set_by {v : Value} {Q : Value → Shared → Prop}
    (fill : ∀ (A' : Around) (E' : Value → Shared → Prop), A'.handled = A.handled → A'.units ≤ A.units + 3 → wpAny (model P w) A' (Builtin.Frozenset.updateFrom "set.__init__" s.heap.objs.size v) (fun _ s₂ => Q (.ref s.heap.objs.size) s₂) E' { s with heap := s.heap.push (set0 w) }) :
    wpAny (model P w) A (call (.type "set") [v]) Q E s := by
  obtain ⟨c, tl, hmro⟩ := F.called_set.mro
  have a1 := F.called_set.made
  have a2 := F.called_set.sub
  have a3 := F.called_set.notType
  have a4 := F.called_set.canCreate
  have a5 := F.typeCall_set_1 v
  refine wpAny_call (codeAny_of_tree ?_)
  refine wpAny_pure ⟨Code.quiet_builtin _ (by decide +kernel), codeAny_builtin F.entry_type_call ?_⟩
  rw [Around.under_plain (weight_type_call_type "set" [v] []) rfl]
  repeat (any_goals (first | assumption | wp_step))
  refine codeAny_mono (code_set_led1 v (E := E) (Q₁ := fun obj s₁ => obj = .ref s.heap.objs.size ∧ s₁ = { s with heap := s.heap.push (set0 w) }) ⟨rfl, rfl⟩) fun r s₁ hr => ?_
  match r, hr with
  | .error e, hr => exact hr
  | .ok (.ret obj), hr =>
    obtain ⟨rfl, rfl⟩ := hr
    have hT : Shared.TypeIs { s with heap := s.heap.push (set0 w) } (.ref s.heap.objs.size) "set" := ⟨_, Heap.get?_push_size _ rfl, rfl⟩
    have hS : (s.heap.push (set0 w)).get? s.heap.objs.size = some (set0 w) := Heap.get?_push_size _ rfl
    have b1 := F.called_set.init.lookup
    have b2 := F.called_set.init.bind (.ref s.heap.objs.size)
    repeat (any_goals (first | assumption | wp_step))
    refine codeAny_mono (codeAny_call_builtin (R := wants (fun r s₂ => r = .none ∧ Q (.ref s.heap.objs.size) s₂) E) F.called_set.init.plain F.entry_set_init (check_set_init_1 hT ?_)) fun r₂ s₂ hr₂ => ?_
    · unfold Builtin.«set.__init__» noKeywords
      generalize Builtin.Frozenset.updateFrom = UF at fill ⊢
      wp_walk
      exact wpAny_mono (fill A.in1.in1 _ rfl (by show A.units + 1 + 1 ≤ _; omega)) (fun _ _ z => wpAny_pure ⟨rfl, z⟩) fun _ _ z => z
    · match r₂, hr₂ with
      | .error e, hr₂ => exact hr₂
      | .ok (.ret r), hr₂ =>
        obtain ⟨rfl, hq⟩ := hr₂
        repeat (any_goals (first | assumption | wp_step))
      | .ok (.next), hr₂ => exact hr₂.elim
      | .ok (.brk), hr₂ => exact hr₂.elim
      | .ok (.cont), hr₂ => exact hr₂.elim
  | .ok (.next), hr => exact hr.elim
  | .ok (.brk), hr => exact hr.elim
  | .ok (.cont), hr => exact hr.elim
/-- the filling, one thing behind the other: J i says what the set is when i things are put in -/
theorem fill_loop {I : Addr} {fp wr : List Addr} {G : Array GenState → Array GenState → Prop} {n : Nat} {Pv : Nat → Value → Prop} {St : Nat → Shared → Prop} {R : Result → Shared → Prop} {D : Addr} (W : WalksS P w A.in1 I fp wr G n Pv St) (away : D ∉ fp) (J : Nat → Heap → Prop)
    (stay : ∀ i h h', J i h → (∀ b o, b ∉ wr → h.get? b = some o → h'.get? b = some o) → J i h')
    (put : ∀ i v (s0 : Shared) (Q : Bool → Shared → Prop) (E' : Value → Shared → Prop), i < n → Pv i v → J i s0.heap → (∀ c h' tk, s0.toks ≤ tk → Heap.SameBut D s0.heap h' → J (i + 1) h' → Q c { s0 with heap := h', toks := tk }) → wpAny (model P w) A.in1 (setAdd D v) Q E' s0) :
    ∀ (m i : Nat) (s0 : Shared), i + m = n → St i s0 → J i s0.heap → (∀ s', Moved (D :: wr) G s0 s' → J n s'.heap → R (.ok (.ret .none)) s') → codeAny (model P w) A (.builtin "set.update.loop" ⟨[.ref D, .ref I], []⟩) R s0 := by
  have dw : D ∉ wr := fun z => away (W.sub _ z)
  intro m
  induction m with
  | zero =>
    intro i s0 e st j fin
    obtain rfl : i = n := e
    refine codeAny_builtin F.entry_set_update_loop ?_
    rw [Around.under_plainId F.plain_set_update_loop _]
    refine wpAny_bind (m := pyNext (.ref I)) (W.done s0 _ _ st fun s' mv => ?_)
    exact wpAny_pure (fin s' (mv.mono fun b hb => List.mem_cons_of_mem _ hb) (stay _ _ _ j fun b o nb e' => mv.heap b o nb e'))
  | succ m ih =>
    intro i s0 e st j fin
    have lt : i < n := by omega
    refine codeAny_builtin F.entry_set_update_loop ?_
    rw [Around.under_plainId F.plain_set_update_loop _]
    refine wpAny_bind (m := pyNext (.ref I)) (W.item i s0 _ _ lt st fun v s1 pv st1 mv => ?_)
    have j1 := stay _ _ _ j fun b o nb e' => mv.heap b o nb e'
    refine wpAny_bind (m := holding [v] (setAdd D v)) (wpAny_holding (put i v s1 _ _ lt pv j1 fun c h' tk htk sb j2 => ?_))
    refine wpAny_pure ⟨plainId_quiet F.plain_set_update_loop _, ih (i + 1) _ (by omega) (W.frame _ s1 _ _ st1 htk fun b hb o e' => ?_) j2 fun s2 mv2 j3 => ?_⟩
    · exact (sb.2 b fun z => away (z ▸ hb)).trans e'
    · refine fin s2 (Moved.trans W.gtrans ((mv.mono fun b hb => List.mem_cons_of_mem D hb).then_heap htk fun b o nb e' => ?_) mv2) j3
      exact (sb.2 b fun z => nb (z ▸ List.mem_cons_self)).trans e'
/-! sets of texts -/
def txOf (e : Int × Value) : Str := match e.2 with
  | .str z _ => z
  | _ => ""
def IsTx (P : Program) (w : World) (e : Int × Value) : Prop := ∃ z tk, e = ((strKind P w).hash z, Value.str z tk)
structure TxRaw (P : Program) (w : World) (L : List Str) (es : Array (Int × Value)) (t : SetTable) : Prop where
  each : ∀ e ∈ es.toList, IsTx P w e
  perm : (es.toList.map txOf).Perm L
  nd : L.Nodup
  few : L.length < scanBound
  fit : t.fits es.size = true
  ris : Ris t.place.toList
  led : w.params.followText "set-order" = true ∨ t.led = true
def TxSet (P : Program) (w : World) (h : Heap) (a : Addr) (L : List Str) : Prop := ∃ o es ep t, h.get? a = some o ∧ o.ExactSet ∧ o.data = .set es ep t ∧ TxRaw P w L es t
theorem TxSet.at {h h' : Heap} {a : Addr} {L : List Str} (x : TxSet P w h a L) (k : ∀ o, h.get? a = some o → h'.get? a = some o) : TxSet P w h' a L := by
  obtain ⟨o, es, ep, t, ho, r⟩ := x
  exact ⟨o, es, ep, t, k o ho, r⟩
theorem TxSet.new {h : Heap} {a : Addr} (ho : h.get? a = some (set0 w)) : TxSet P w h a [] := by
  refine ⟨_, #[], 0, _, ho, ⟨rfl, rfl, rfl⟩, rfl, ⟨fun e he => by simp at he, List.Perm.refl _, List.nodup_nil, by decide, rfl, List.Pairwise.nil, ?_⟩⟩
  cases c : w.params.followText "set-order" with
  | true => exact .inl rfl
  | false => exact .inr rfl
theorem tx_elems {es : List (Int × Value)} (h : ∀ e ∈ es, IsTx P w e) : ElemsOf (strKind P w) es := fun e he => by
  obtain ⟨z, tk, rfl⟩ := h e he
  exact ⟨⟨z, strKind_is P w z tk, rfl⟩, rfl⟩
theorem tx_is {e : Int × Value} (h : IsTx P w e) (z : Str) : (strKind P w).is z e.2 = true ↔ txOf e = z := by
  obtain ⟨y, tk, rfl⟩ := h
  constructor
  · intro q
    obtain ⟨u, e⟩ := Value.isStrOf_shape (show Value.isStrOf z (.str y tk) = true from q)
    cases e
    rfl
  · intro q
    cases q
    exact strKind_is P w _ tk
theorem tx_perm {L : List Str} {es es' : Array (Int × Value)} {t t' : SetTable} (r : TxRaw P w L es t) (p : es'.toList.Perm es.toList) (f : t'.fits es'.size = true) (u : Ris t'.place.toList) (l : t'.led = t.led) : TxRaw P w L es' t' :=
  ⟨fun e he => r.each e (p.mem_iff.mp he), (p.map txOf).trans r.perm, r.nd, r.few, f, u, r.led.imp id fun z => l.trans z⟩
theorem tx_size {L : List Str} {es : Array (Int × Value)} {t : SetTable} (r : TxRaw P w L es t) : es.size = L.length := by
  have := r.perm.length_eq
  rw [List.length_map, Array.length_toList] at this
  exact this
/-- what is stored when a text is new -/
theorem tx_tail {gw : Bool → Sem Unit} (quiet : ∀ (b : Bool) (s₁ : Shared) (Q' : Unit → Shared → Prop), Q' () s₁ → wpAny (model P w) A (gw b) Q' E s₁) {a : Addr} {o : Obj} {es es1 : Array (Int × Value)} {ep : Nat} {t t2 : SetTable} {L : List Str} {b : Bool} {Q : Option Bool → Shared → Prop} (ho : s.heap.get? a = some o) (hx : o.ExactSet) (hd : o.data = .set es ep t) (r : TxRaw P w L es1 t2)
    (fin : ∀ h', Heap.SameBut a s.heap h' → TxSet P w h' a L → Q (some true) { s with heap := h' }) :
    wpAny (model P w) A (storeSet a es1 t2 >>= fun _ => if (!b && t2.tooFull) = true then gw (relayAll t2 es1 (SetTable.grown es1.size)).2.2 >>= fun _ => storeSet a (relayAll t2 es1 (SetTable.grown es1.size)).1 (relayAll t2 es1 (SetTable.grown es1.size)).2.1 >>= fun _ => pure (some true) else pure (some true)) Q E s := by
  have few1 : es1.size < scanBound := by rw [tx_size r]; exact r.few
  refine wpAny_bind (wpAny_storeSet_of ho hd ?_ (fits_of_scanBound few1))
  have o1 := store_at (es' := es1) (t' := t2) ho hd
  have same1 := Heap.SameBut.update s.heap a (Obj.putSet es1 t2)
  by_cases c : (!b && t2.tooFull) = true
  · refine wp_if_pos c ?_
    have q := tx_perm r (relayAll_perm t2 es1 (SetTable.grown es1.size)) (relayAll_fits t2 es1 (SetTable.grown es1.size)) (relayAll_ris t2 es1 (SetTable.grown es1.size)) (relayAll_led t2 es1 (SetTable.grown es1.size))
    generalize relayAll t2 es1 (SetTable.grown es1.size) = Z at q ⊢
    obtain ⟨es2, t3, gave⟩ := Z
    have few2 : es2.size < scanBound := by rw [tx_size q]; exact q.few
    dsimp only
    refine wpAny_bind (quiet _ _ _ ?_)
    refine wpAny_bind (wpAny_storeSet_of o1 rfl ?_ (fits_of_scanBound few2))
    have o2 := store_at (es' := es2) (t' := t3) o1 rfl
    exact wpAny_pure (fin _ (same1.trans (Heap.SameBut.update _ a _)) ⟨_, es2, _, t3, o2, hx, rfl, q⟩)
  · refine wp_if_neg c ?_
    exact wpAny_pure (fin _ same1 ⟨_, es1, _, t2, o1, hx, rfl, r⟩)
theorem tx_add {a : Addr} {L : List Str} {z : Str} {tk : Tok} {Q : Bool → Shared → Prop} (x : TxSet P w s.heap a L) (room : L.length + 1 < scanBound) (old : z ∈ L → Q false s)
    (new : z ∉ L → ∀ h', Heap.SameBut a s.heap h' → TxSet P w h' a (z :: L) → Q true { s with heap := h' }) : wpAny (model P w) A (setAddHashed a (.str z tk) ((strKind P w).hash z)) Q E s := by
  obtain ⟨o, es, ep, t, ho, hx, hd, r⟩ := x
  have few1 : es.size < scanBound := by rw [tx_size r]; exact r.few
  have el := tx_elems r.each
  have isz := strKind_is P w z tk
  have mem : z ∈ L ↔ ∃ e ∈ es.toList, (strKind P w).is z e.2 = true := by
    rw [← r.perm.mem_iff, List.mem_map]
    exact ⟨fun ⟨e, h1, h2⟩ => ⟨e, h1, (tx_is (r.each e h1) z).mpr h2⟩, fun ⟨e, h1, h2⟩ => ⟨e, h1, (tx_is (r.each e h1) z).mp h2⟩⟩
  unfold setAddHashed setAddHashedIn
  refine wpAny_holding (wpAny_bind (wpAny_setState_of ho hd r.fit ?_))
  dsimp only
  rw [byScan_of (x := .str z tk) rfl few1 el]
  simp only [↓reduceIte]
  unfold setAddByScan
  refine wpAny_bind ?_
  refine wpAny_bind (wpAny_rule (wpAny_bind (wpAny_setScan_of isz ho hd r.fit el ?_)))
  cases c : List.findIdx? (fun e => (strKind P w).is z e.2) es.toList with
  | some j =>
    obtain ⟨j1, j2, _⟩ := List.findIdx?_eq_some_iff_getElem.mp c
    exact wpAny_pure (wpAny_pure (old (mem.mpr ⟨_, List.getElem_mem j1, j2⟩)))
  | none =>
    have nz : z ∉ L := fun q => by
      obtain ⟨e, h1, h2⟩ := mem.mp q
      have := List.findIdx?_eq_none_iff.mp c e h1
      rw [h2] at this
      cases this
    have p := layNew_perm t es ((strKind P w).hash z) (.str z tk)
    have f := layNew_fits t es ((strKind P w).hash z) (.str z tk)
    have u := layNew_ris t es ((strKind P w).hash z) (.str z tk) r.ris
    have l := layNew_led t es ((strKind P w).hash z) (.str z tk)
    generalize layNew t es ((strKind P w).hash z) (.str z tk) = Z at p f u l ⊢
    obtain ⟨es1, t1, dm, gave⟩ := Z
    dsimp only at p f u l ⊢
    rw [Array.toList_push] at p
    have p2 : es1.toList.Perm (((strKind P w).hash z, Value.str z tk) :: es.toList) := p.trans (List.perm_append_singleton _ _)
    have raw : TxRaw P w (z :: L) es1 t1 := ⟨fun e he => by
      rcases List.mem_cons.mp (p2.mem_iff.mp he) with h | h
      · exact ⟨z, tk, h⟩
      · exact r.each e h, (p2.map txOf).trans (r.perm.cons z), List.nodup_cons.mpr ⟨nz, r.nd⟩, room, f, u, r.led.imp id fun z => l.trans z⟩
    have raw2 : TxRaw P w (z :: L) es1 { t1 with plain := false } := ⟨raw.each, raw.perm, raw.nd, raw.few, SetTable.fits_plain_off f, u, raw.led⟩
    have fin : ∀ h', Heap.SameBut a s.heap h' → TxSet P w h' a (z :: L) → Q true { s with heap := h' } := new nz
    refine wpAny_bind ?_
    have hushed : ∀ (b : Bool) (s₁ : Shared) (Q' : Unit → Shared → Prop), Q' () s₁ → wpAny (model P w) A (match b with | true => rule "set.scan.the-table-gave-way" | false => pure ()) Q' E s₁ := fun b s₁ Q' q => by
      cases b
      · exact wpAny_pure q
      · exact wpAny_rule q
    refine hushed gave _ _ ?_
    by_cases pl : t1.plain = true
    · refine wp_if_pos pl (wpAny_bind ?_)
      rw [hashByValue_scannable 8 (x := Value.str z tk) rfl]
      refine wpAny_pure (tx_tail hushed ho hx hd (L := z :: L) ?_ fun h' sb q => wpAny_pure (fin h' sb q))
      split
      · exact raw
      · exact raw2
    · refine wp_if_neg pl (wpAny_bind (wpAny_pure (tx_tail hushed ho hx hd (L := z :: L) ?_ fun h' sb q => wpAny_pure (fin h' sb q))))
      exact raw
end
end SWL
set_option Elab.async false
set_option linter.all false
set_option maxRecDepth 100000
set_option maxHeartbeats 4000000
namespace SWL
open PySem PySem.Spec PyProof.Rows L2 LamX
theorem sub_str_set : isSubtype (.type "str") (.type "set") = pure false := by rw [isSubtype_type]; kernel_rfl
theorem sub_str_frz : isSubtype (.type "str") (.type "frozenset") = pure false := by rw [isSubtype_type]; kernel_rfl
section
variable {P : Program} {w : World} {A : Around} {E : Value → Shared → Prop} {s : Shared}
/-- the signs of a text, each once -/
def SignsOf (cs : List Nat) (L : List Str) : Prop := ∀ x, x ∈ L ↔ ∃ c ∈ cs, x = (⟨#[c]⟩ : Str)
theorem tx_fill {z : Str} {t : Tok} {Q : Value → Shared → Prop} (hh : A.handled = none) (few : z.length + 1 < scanBound)
    (q : ∀ (h' : Heap) (tk : Nat) (L : List Str), TxSet P w h' s.heap.objs.size L → SignsOf z.cps.toList L → (∀ b o, s.heap.get? b = some o → h'.get? b = some o) → Q (.ref s.heap.objs.size) { s with heap := h', toks := tk }) :
    wpAny (model P w) A (call (.type "set") [.str z t]) Q E s := by
  refine set_by fun A' E' hA _ => ?_
  have hh' : A'.handled = none := hA.trans hh
  have hS : (s.heap.push (set0 w)).get? s.heap.objs.size = some (set0 w) := Heap.get?_push_size _ rfl
  have n1 := sub_str_set
  have n2 := sub_str_frz
  unfold Builtin.Frozenset.updateFrom
  generalize hPI : pyIter = PI
  wp_walk
  subst hPI
  refine wpAny_pyIter_str fun o St W st0 => ?_
  refine wpAny_bind (wpAny_runValue ?_)
  have sz1 : (s.heap.push (set0 w)).objs.size = s.heap.objs.size + 1 := size_push' _ _
  have away : s.heap.objs.size ∉ [(s.heap.push (set0 w)).objs.size] := fun h => by
    have := List.mem_singleton.mp h
    omega
  have up : ∀ b u, s.heap.get? b = some u → ((s.heap.push (set0 w)).push o).get? b = some u := fun b u e => Heap.get?_push_of_some _ (Heap.get?_push_of_some _ e)
  have lt : ∀ b u, s.heap.get? b = some u → b ≠ s.heap.objs.size ∧ b ≠ (s.heap.push (set0 w)).objs.size := fun b u e => by
    have h := Heap.lt_size e
    exact ⟨Nat.ne_of_lt h, Nat.ne_of_lt (by rw [sz1]; exact Nat.lt_succ_of_lt h)⟩
  refine fill_loop (P := P) (w := w) (A := A') (n := z.cps.size) (W A'.in1 hh').toS away (fun i h => ∃ L, TxSet P w h s.heap.objs.size L ∧ SignsOf (z.cps.toList.take i) L ∧ L.length ≤ i)
    (fun i h h' ⟨L, x, g, l⟩ k => ⟨L, x.at fun u e => k _ u away e, g, l⟩) ?_ z.cps.size 0 _ (by omega) st0 ⟨[], .new (Heap.get?_push_of_some _ hS), fun x => by simp, Nat.le_refl _⟩ ?_
  · rintro i v s0 Q' E2 hi ⟨c, u, hc, rfl⟩ ⟨L, x, g, l⟩ q'
    have hc' : z.cps.toList[i]? = some c := by rw [Array.getElem?_toList]; exact hc
    have ht : z.cps.toList.take (i + 1) = z.cps.toList.take i ++ [c] := take_snoc hc'
    have zl : z.length = z.cps.size := rfl
    unfold setAdd
    refine wpAny_holding (wpAny_bind ((PySem.strKind P w).pyHash (strKind_is P w ⟨#[c]⟩ u) ?_))
    refine tx_add (s := { s0 with toks := s0.toks + 1 }) x (by omega) (fun m => ?_) fun nm h' sb y => ?_
    · refine q' false s0.heap (s0.toks + 1) (Nat.le_succ _) (Heap.SameBut.refl _ _) ⟨L, x, fun y => ?_, by omega⟩
      rw [g y, ht]
      constructor
      · rintro ⟨d, hd, e⟩
        exact ⟨d, List.mem_append_left _ hd, e⟩
      · rintro ⟨d, hd, e⟩
        rcases List.mem_append.mp hd with h | h
        · exact ⟨d, h, e⟩
        · rw [List.mem_singleton.mp h] at e
          rw [e]
          exact (g _).mp m
    · refine q' true h' (s0.toks + 1) (Nat.le_succ _) sb ⟨_, y, fun y => ?_, by rw [List.length_cons]; omega⟩
      rw [List.mem_cons, g y, ht]
      constructor
      · rintro (e | ⟨d, hd, e⟩)
        · exact ⟨c, by simp, e⟩
        · exact ⟨d, List.mem_append_left _ hd, e⟩
      · rintro ⟨d, hd, e⟩
        rcases List.mem_append.mp hd with h | h
        · exact .inr ⟨d, h, e⟩
        · rw [List.mem_singleton.mp h] at e
          exact .inl e
  · rintro s' mv ⟨L, x, g, l⟩
    obtain ⟨h', g', d', tk', os'⟩ := s'
    obtain rfl : g' = s.gens := mv.gens
    obtain rfl : d' = s.drawn := mv.drawn
    obtain rfl : os' = s.os := mv.os
    have et : z.cps.toList.take z.cps.size = z.cps.toList := List.take_of_length_le (by rw [Array.length_toList]; exact Nat.le_refl _)
    rw [et] at g
    refine wpAny_pure ?_
    exact q h' tk' L x g fun b u e => mv.heap b u (fun hm => by
      rcases List.mem_cons.mp hm with h | h
      · exact (lt b u e).1 h
      · exact (lt b u e).2 (List.mem_singleton.mp h)) (up b u e)
/-- one-sign texts in order, each once -/
theorem signs_rise : ∀ cs : List Nat, sortedS (cs.map fun c => (⟨#[c]⟩ : Str)) = true → (cs.map fun c => (⟨#[c]⟩ : Str)).Nodup → cs.Pairwise (· < ·) := by
  have one : ∀ c d : Nat, ltCps [c] [d] = decide (c < d) := fun c d => by
    unfold ltCps
    cases h : decide (c < d)
    · show (false || (c == d && ltCps [] [])) = false
      simp [ltCps]
    · rfl
  have gen : ∀ (cs : List Nat) (p : Nat), risingS ⟨#[p]⟩ (cs.map fun c => (⟨#[c]⟩ : Str)) = true → (⟨#[p]⟩ : Str) ∉ (cs.map fun c => (⟨#[c]⟩ : Str)) → (cs.map fun c => (⟨#[c]⟩ : Str)).Nodup → (∀ c ∈ cs, p < c) ∧ cs.Pairwise (· < ·) := by
    intro cs
    induction cs with
    | nil => intro p _ _ _; exact ⟨fun c hc => (by cases hc), .nil⟩
    | cons c cs ih =>
      intro p h np nd
      rw [List.map_cons] at h np nd
      unfold risingS at h
      rw [Bool.and_eq_true] at h
      obtain ⟨h1, h2⟩ := h
      obtain ⟨nd1, nd2⟩ := List.nodup_cons.mp nd
      obtain ⟨a1, a2⟩ := ih c h2 nd1 nd2
      have pc : p < c := by
        have e : (!ltCps [c] [p]) = true := h1
        rw [one] at e
        have ne : p ≠ c := fun z => np (by rw [z]; exact List.mem_cons_self)
        simp at e
        omega
      refine ⟨fun d hd => ?_, List.pairwise_cons.mpr ⟨a1, a2⟩⟩
      rcases List.mem_cons.mp hd with rfl | hd
      · exact pc
      · exact Nat.lt_trans pc (a1 d hd)
  intro cs h nd
  cases cs with
  | nil => exact .nil
  | cons c cs =>
    obtain ⟨nd1, nd2⟩ := List.nodup_cons.mp nd
    obtain ⟨a1, a2⟩ := gen cs c h nd1 nd2
    exact List.pairwise_cons.mpr ⟨a1, a2⟩
end
theorem len_within {α : Type} [DecidableEq α] : ∀ (l D : List α), l.Nodup → (∀ x ∈ l, x ∈ D) → l.length ≤ D.length
  | [], _, _, _ => Nat.zero_le _
  | x :: l, D, nd, h => by
    obtain ⟨h1, h2⟩ := List.nodup_cons.mp nd
    have hx := h x List.mem_cons_self
    have := len_within l (D.erase x) h2 fun y hy => (List.mem_erase_of_ne fun e : y = x => h1 (e ▸ hy)).mpr (h y (List.mem_cons_of_mem _ hy))
    rw [List.length_erase_of_mem hx] at this
    have := List.length_pos_of_mem hx
    rw [List.length_cons]
    omega
def TxO (P : Program) (w : World) (a : Addr) (L : List Str) : HO := .ext fun h => TxSet P w h a L
theorem txO_new {P : Program} {w : World} {H : Hp} {h : Heap} {a : Addr} {L : List Str} (x : TxSet P w h a L) : ObjOk P w H h a (TxO P w a L) :=
  ⟨x, (by obtain ⟨o, _, _, _, ho, _⟩ := x; exact ⟨o, ho⟩), fun _ _ y k => TxSet.at y k⟩
section
variable {X : Cx}
/-- set(text) -/
def rSetTx (P : Program) (w : World) : List V → Hp → VK → Prop := fun xs H Q => ∃ z, xs = [.str z] ∧ z.length + 1 < scanBound ∧ ∀ p L, H p = none → L.Nodup → SignsOf z.cps.toList L → Q (.ref p) (upd H p (TxO P w p L))
theorem cr_setTx (hc : X.calm = true) : CallR X (.type "set") (rSetTx X.prog X.w) := by
  intro pins s σ H xs us Q I r h
  obtain ⟨z, rfl, few, q⟩ := h
  cases r with
  | cons r1 rs =>
    cases rs
    obtain ⟨t, rfl⟩ := r1
    refine tx_fill (I.ok.hd hc) few fun h' tk L x g k => ?_
    have nd : L.Nodup := by obtain ⟨_, _, _, _, _, _, _, r⟩ := x; exact r.nd
    exact ⟨.ref s.heap.objs.size, _, I.laid (t' := tk) k (Nat.le_refl _) (txO_new x), rfl, q _ L (I.hok.fresh (Nat.le_refl _)) nd g⟩
/-- sorted(set(text)) -/
def rSortTx (P : Program) (w : World) : List V → Hp → VK → Prop := fun xs H Q => ∃ a zs L, xs = [.ref a] ∧ H a = some (TxO P w a L) ∧ SignsOf zs L ∧ L.length < 64 ∧
  ∀ (cs : List Nat) p, cs.Pairwise (· < ·) → (∀ c, c ∈ cs ↔ c ∈ zs) → H p = none → Q (.ref p) (upd H p (.lst (cs.map fun c => .str ⟨#[c]⟩)))
def strV (v : Value) : Str := match v with
  | .str z _ => z
  | _ => ""
theorem strs_are : ∀ {vs : List Value}, (∀ v ∈ vs, ∃ z tk, v = Value.str z tk) → StrsAre vs (vs.map strV)
  | [], _ => .nil
  | v :: vs, h => by
    obtain ⟨z, tk, rfl⟩ := h v List.mem_cons_self
    exact .cons z tk (strs_are fun y hy => h y (List.mem_cons_of_mem _ hy))
theorem cr_sortedTx (hc : X.calm = true) : CallR X (.builtin "sorted") (rSortTx X.prog X.w) := by
  intro pins s σ H xs us Q I r h
  obtain ⟨a, zs, L, rfl, ha, g, few, q⟩ := h
  rw [Vals.ref1 r]
  obtain ⟨o, es, ep, t, ho, hx, hd, raw⟩ := (show ObjOk X.prog X.w H s.heap a (TxO X.prog X.w a L) from I.hok _ _ ha).1
  have n1 : es.size = L.length := tx_size raw
  refine Calls.call_function_entry kind_sorted plain_sorted entry_sorted (args_sorted1 _) ?_
  unfold Builtin.«sorted»
  refine wpAny_bind (m := checkCount "sorted" 1 1 _) (wpAny_pure ?_)
  refine wpAny_bind (collect_set (A := X.A.in1) (I.ok.hd hc) ⟨o, ho, hx.1, hd⟩ raw.fit (by rw [n1]; exact raw.few) raw.ris raw.led fun s1 vs up sz g1 o1 pm => ?_)
  have each : ∀ v ∈ vs, ∃ z tk, v = Value.str z tk := fun v hv => by
    obtain ⟨e, he, q⟩ := List.mem_map.mp (pm.mem_iff.mp hv)
    obtain ⟨z, tk, rfl⟩ := raw.each e he
    exact ⟨z, tk, q.symm⟩
  have hS := strs_are each
  have p1 : (vs.map strV).Perm L := by
    have e := pm.map strV
    rw [List.map_map] at e
    exact e.trans raw.perm
  have n2 : vs.length = L.length := by rw [← p1.length_eq, List.length_map]
  refine wpAny_bind (wpAny_newList ?_ (by rw [n2, sizeLine_eq]; omega))
  have at1 : (s1.heap.push (seqObj "list" vs.toArray 0)).get? s1.heap.objs.size = some (seqObj "list" vs.toArray 0) := Heap.get?_push_size _ rfl
  refine wpAny_bind (wpAny_holding (wpAny_call_entry slot_list_sort ⟨_, at1, rfl⟩ entry_list_sort (list_sort_treeK strKind_oneLt at1 hS.keysOf (fun v₁ v₂ rest e => keyKind_strs (by rw [← e]; exact hS)) (by rw [n2]; exact few) fun st hp hs => ?_) (args_list_sort _)))
  obtain ⟨ys, b1, b2, b3⟩ := sorted_out_str hS hp hs
  obtain ⟨c, at2⟩ := sortedHeap_at (vs := vs) (out := (arrOf st).map (·.2)) at1
  have p2 : ys.Perm L := b2.trans p1
  obtain ⟨cs, rfl⟩ : ∃ cs : List Nat, ys = cs.map fun c => (⟨#[c]⟩ : Str) := by
    have : ∀ l : List Str, (∀ y ∈ l, ∃ c : Nat, y = (⟨#[c]⟩ : Str)) → ∃ cs : List Nat, l = cs.map fun c => (⟨#[c]⟩ : Str) := by
      intro l
      induction l with
      | nil => intro _; exact ⟨[], rfl⟩
      | cons y l ih =>
        intro h
        obtain ⟨c, rfl⟩ := h y List.mem_cons_self
        obtain ⟨cs, rfl⟩ := ih fun z hz => h z (List.mem_cons_of_mem _ hz)
        exact ⟨c :: cs, rfl⟩
    exact this ys fun y hy => by
      obtain ⟨c, _, e⟩ := (g y).mp (p2.mem_iff.mp hy)
      exact ⟨c, e⟩
  have rise := signs_rise cs b3 (p2.nodup_iff.mpr raw.nd)
  have mem : ∀ c, c ∈ cs ↔ c ∈ zs := fun c => by
    constructor
    · intro hc
      obtain ⟨d, hd, e⟩ := (g _).mp (p2.mem_iff.mp (List.mem_map.mpr ⟨c, hc, rfl⟩))
      cases e
      exact hd
    · intro hc
      obtain ⟨d, hd, e⟩ := List.mem_map.mp (p2.mem_iff.mpr ((g ⟨#[c]⟩).mpr ⟨c, hc, rfl⟩))
      cases e
      exact hd
  have ll : (cs.map fun c => V.str ⟨#[c]⟩).length ≤ sizeLine := by
    have := p2.length_eq
    rw [List.length_map] at this ⊢
    rw [this, sizeLine_eq]
    omega
  have hv : Vals (cs.map fun c => V.str ⟨#[c]⟩) ((arrOf st).map (·.2)).toList := by
    have e := vals_of_strs b1
    rw [List.map_map] at e
    exact e
  have old : ∀ b u, s.heap.get? b = some u → (sortedHeap (s1.heap.push (seqObj "list" vs.toArray 0)) s1.heap.objs.size vs ((arrOf st).map (·.2))).get? b = some u := fun b u e => by
    have h1 := up b u e
    have h2 := Heap.lt_size h1
    exact (sortedHeap_old (Nat.ne_of_lt h2) (by rw [size_push']; exact Nat.lt_succ_of_lt h2)).trans (Heap.get?_push_of_some _ h1)
  have fresh : H s1.heap.objs.size = none := I.hok.fresh sz
  have newO : ObjOk X.prog X.w (upd H s1.heap.objs.size (.lst (cs.map fun c => V.str ⟨#[c]⟩))) (sortedHeap (s1.heap.push (seqObj "list" vs.toArray 0)) s1.heap.objs.size vs ((arrOf st).map (·.2))) s1.heap.objs.size (.lst (cs.map fun c => V.str ⟨#[c]⟩)) := ⟨ll, _, c, hv, at2⟩
  refine ⟨_, rfl, wpAny_pure ⟨_, rfl, .ref s1.heap.objs.size, upd H s1.heap.objs.size (.lst (cs.map fun c => V.str ⟨#[c]⟩)), ?_, rfl, q cs _ rise mem fresh⟩⟩
  refine I.call' (ch := []) o1 (Un.laid old sz fresh) (I.hok.laid old sz newO) ?_ (fun _ z => nomatch z)
  show AllBare s1.gens
  rw [g1]
  exact I.bare
end
end SWL
set_option Elab.async false
set_option linter.all false
set_option maxRecDepth 100000
set_option maxHeartbeats 4000000
namespace SWL
open PySem PySem.Spec PyProof.Rows L2 LamX
/-! dicts whose keys are nested tuples of numbers and texts -/
mutual
inductive NkAt (H : Hp) : V → NestedKey → Prop
  | int (i : Int) : NkAt H (.int i) (.num i)
  | str (z : Str) : NkAt H (.str z) (.text z)
  | tup {a : Addr} {xs : List V} {ks : List NestedKey} : H a = some (.tup xs) → NkAll H xs ks → NkAt H (.ref a) (.tup ks)
inductive NkAll (H : Hp) : List V → List NestedKey → Prop
  | nil : NkAll H [] []
  | cons {x : V} {k : NestedKey} {xs : List V} {ks : List NestedKey} : NkAt H x k → NkAll H xs ks → NkAll H (x :: xs) (k :: ks)
end
mutual
theorem NkAt.keep {H H' : Hp} (g : ∀ b xs, H b = some (.tup xs) → H' b = some (.tup xs)) : ∀ (k : NestedKey) {x : V}, NkAt H x k → NkAt H' x k
  | _, _, .int i => .int i
  | _, _, .str z => .str z
  | .tup ks, _, .tup h t => .tup (g _ _ h) (NkAll.keep g ks t)
theorem NkAll.keep {H H' : Hp} (g : ∀ b xs, H b = some (.tup xs) → H' b = some (.tup xs)) : ∀ (ks : List NestedKey) {xs : List V}, NkAll H xs ks → NkAll H' xs ks
  | _, _, .nil => .nil
  | k :: ks, _, .cons h t => .cons (NkAt.keep g k h) (NkAll.keep g ks t)
end
section
variable {X : Cx} {pins : List (Addr × Obj)} {σ : L2.St} {H : Hp} {s : Shared}
mutual
theorem nk_is (I : Inv X pins σ H s) : ∀ (k : NestedKey) {x : V} {u : Value}, NkAt H x k → RelV x u → NestedIs s.heap k u
  | _, _, _, .int i, r => by obtain ⟨t, rfl⟩ := r; exact .int i t
  | _, _, _, .str z, r => by obtain ⟨t, rfl⟩ := r; exact .text z t
  | .tup ks, _, _, @NkAt.tup _ a xs _ h t, r => by
    cases r
    obtain ⟨_, its, rv, o, ho, hc, n, hd⟩ := (show ObjOk X.prog X.w H s.heap a (.tup xs) from I.hok _ _ h)
    exact .tup ho hc hd (by rw [List.toList_toArray]; exact nk_all I ks t rv)
theorem nk_all (I : Inv X pins σ H s) : ∀ (ks : List NestedKey) {xs : List V} {us : List Value}, NkAll H xs ks → Vals xs us → NestedAll s.heap ks us
  | _, _, _, .nil, r => by cases r; exact .nil
  | k :: ks, _, _, .cons h t, r => by
    cases r with
    | cons r1 r2 => exact .cons (nk_is I k h r1) (nk_all I ks t r2)
end
abbrev NRow := NestedKey × Addr × V
abbrev NRaw := NestedKey × Addr × Value
def RowIs (r : NRow) (x : NRaw) : Prop := r.1 = x.1 ∧ r.2.1 = x.2.1 ∧ RelV r.2.2 x.2.2
def NdRaw (P : Program) (w : World) (a : Addr) (xs : List NRaw) (h : Heap) : Prop := ∃ o es ep, h.get? a = some o ∧ o.ExactDict ∧ o.data = .dict es ep ∧ es.toList = xs.map (entryOfKey (nestedKind P w)) ∧ (xs.map (·.1)).Nodup
def NdAt (P : Program) (w : World) (a : Addr) (rows : List NRow) (h : Heap) : Prop := (a == sysModules) = false ∧ rows.length ≤ sizeLine ∧ ∃ xs, Paired RowIs rows xs ∧ NdRaw P w a xs h
/-- the dict at a, its rows: key, the key's place, value -/
def NDO (P : Program) (w : World) (a : Addr) (rows : List NRow) : HO := .ext fun h => NdAt P w a rows h
theorem nd_new {P : Program} {w : World} {H : Hp} {h : Heap} {a : Addr} {rows : List NRow} (x : NdAt P w a rows h) : ObjOk P w H h a (NDO P w a rows) := by
  refine ⟨x, (by obtain ⟨_, _, _, _, o, _, _, e, _⟩ := x; exact ⟨o, e⟩), fun h1 h2 y k => ?_⟩
  obtain ⟨y1, y2, xs, r, o, es, ep, e, c⟩ := (show NdAt P w a rows h1 from y)
  exact ⟨y1, y2, xs, r, o, es, ep, k _ e, c⟩
def KeysAt (H : Hp) (rows : List NRow) : Prop := ∀ r ∈ rows, NkAt H (.ref r.2.1) r.1 ∧ r.1.depth ≤ 8
theorem nd_dict (I : Inv X pins σ H s) {a : Addr} {rows : List NRow} (e : H a = some (NDO X.prog X.w a rows)) (ks : KeysAt H rows) : (a == sysModules) = false ∧ rows.length ≤ sizeLine ∧ ∃ xs, Paired RowIs rows xs ∧ s.heap.DictOfH (nestedKind X.prog X.w) a xs := by
  obtain ⟨y1, y2, xs, r, o, es, ep, e1, e2, e3, e4, e5⟩ := (show NdAt X.prog X.w a rows s.heap from (I.hok _ _ e).1)
  refine ⟨y1, y2, xs, r, o, es, ep, e1, e2, e3, e4, ?_, e5⟩
  have key : ∀ {rows : List NRow} {xs : List NRaw}, Paired RowIs rows xs → KeysAt H rows → ∀ x ∈ xs, (nestedKind X.prog X.w).is s.heap x.1 x.2.1 := by
    intro rows xs r
    induction r with
    | nil => intro _ x hx; cases hx
    | @cons p q _ _ h _ ih =>
      intro ks x hx
      rcases List.mem_cons.mp hx with rfl | hx
      · obtain ⟨k1, k2⟩ := ks p List.mem_cons_self
        obtain ⟨h1, h2, _⟩ := h
        rw [← h1, ← h2]
        exact ⟨nk_is I _ k1 rfl, k2⟩
      · exact ih (fun r hr => ks r (List.mem_cons_of_mem _ hr)) x hx
  exact key r ks
/-- {} -/
def tDNewN (P : Program) (w : World) : TE := fun _ H Q => ∀ p, H p = none → Q (.ref p) (upd H p (NDO P w p []))
def valN (rows : List NRow) (k : NestedKey) : Option V := (rows.find? fun r => decide (r.1 = k)).map (·.2.2)
theorem val_at {k : NestedKey} : ∀ {rows : List NRow} {xs : List NRaw}, Paired RowIs rows xs → (valN rows k = none ∧ atKey xs k = none) ∨ ∃ v p, valN rows k = some v ∧ atKey xs k = some p ∧ RelV v p.2 := by
  intro rows xs r
  induction r with
  | nil => exact .inl ⟨rfl, rfl⟩
  | @cons p q ps qs h _ ih =>
    obtain ⟨h1, h2, h3⟩ := h
    unfold valN atKey at ih ⊢
    by_cases c : p.1 = k
    · have c2 : q.1 = k := h1.symm.trans c
      rw [List.find?_cons_of_pos (by exact decide_eq_true c), List.find?_cons_of_pos (by exact decide_eq_true c2)]
      exact .inr ⟨p.2.2, q.2, rfl, rfl, h3⟩
    · have c2 : ¬ q.1 = k := fun z => c (h1.trans z)
      rw [List.find?_cons_of_neg (by simpa using c), List.find?_cons_of_neg (by simpa using c2)]
      exact ih
theorem paired_snoc {α β : Type} {R : α → β → Prop} : ∀ {l : List α} {m : List β} {a : α} {b : β}, Paired R l m → R a b → Paired R (l ++ [a]) (m ++ [b])
  | _, _, _, _, .nil, h => .cons h .nil
  | _, _, _, _, .cons r t, h => .cons r (paired_snoc t h)
end
theorem paired_len {α β : Type} {R : α → β → Prop} : ∀ {l : List α} {m : List β}, Paired R l m → l.length = m.length
  | _, _, .nil => rfl
  | _, _, .cons _ t => by rw [List.length_cons, List.length_cons, paired_len t]
theorem nd_empty {P : Program} {w : World} (h : Heap) (hb : sysModules < h.objs.size) : NdAt P w h.objs.size [] (h.push { cls := .type "dict", data := .dict #[] }) :=
  ⟨beq_eq_false_iff_ne.mpr fun z => Nat.ne_of_lt hb z.symm, Nat.zero_le _, [], .nil, _, #[], 0, Heap.get?_push_size _ rfl, ⟨rfl, rfl, rfl⟩, rfl, rfl, List.nodup_nil⟩
def rLenN (P : Program) (w : World) : List V → Hp → VK → Prop := fun xs H Q => ∃ a rows, xs = [.ref a] ∧ H a = some (NDO P w a rows) ∧ KeysAt H rows ∧ Q (.int (rows.length : Nat)) H
/-- what comes of it: the value that is there, or the new one, put in -/
def setdQ (P : Program) (w : World) (Q : VK) (rows : List NRow) (a b : Addr) (k : NestedKey) (z : V) (H : Hp) : Prop := (∀ v, valN rows k = some v → Q v H) ∧ (valN rows k = none → Q z (upd H a (NDO P w a (rows ++ [(k, b, z)]))))
theorem setd_one {P : Program} {w : World} {Q : VK} {rows : List NRow} {a b : Addr} {k : NestedKey} {z : V} {H : Hp} (R : V → Hp → Prop) (h : ∀ v Hx, R v Hx → Q v Hx) (h1 : ∀ v, valN rows k = some v → R v H) (h2 : valN rows k = none → R z (upd H a (NDO P w a (rows ++ [(k, b, z)])))) : setdQ P w Q rows a b k z H :=
  ⟨fun v hv => h _ _ (h1 v hv), fun hn => h _ _ (h2 hn)⟩
/-- d.setdefault(k, x) -/
def tNSetd (P : Program) (w : World) (td ty tx : TE) : TE := fun σ H Q => td σ H fun x H1 => ∃ a, x = .ref a ∧ (∃ rows, H1 a = some (NDO P w a rows)) ∧ ty σ H1 fun y H2 => tx σ H2 fun z H3 =>
  ∃ rows b k, H3 a = some (NDO P w a rows) ∧ KeysAt H3 rows ∧ y = .ref b ∧ NkAt H3 (.ref b) k ∧ k.depth ≤ 8 ∧ rows.length < sizeLine ∧ setdQ P w Q rows a b k z H3
section
variable {X : Cx} {pos : Pos}
theorem pe_dnewN : PE X (.Dict [] [] pos) (tDNewN X.prog X.w) := ⟨fun pins s σ H Q I q =>
  wpAny_Dict_empty ⟨V.ref s.heap.objs.size, _, I.laid (t' := s.toks) (fun b u e => Heap.get?_push_of_some _ e) (Nat.le_refl _) (nd_new (nd_empty s.heap I.big)), rfl, q _ (I.hok.fresh (Nat.le_refl _))⟩⟩
theorem cr_lenN : CallR X (.builtin "len") (rLenN X.prog X.w) := by
  intro pins s σ H xs us Q I r h
  obtain ⟨a, rows, rfl, ha, ks, q⟩ := h
  rw [Vals.ref1 r]
  obtain ⟨lo, z, xs, rel, dd⟩ := nd_dict I ha ks
  have hl := paired_len rel
  refine call_len_dictH lo dd (by rw [← hl]; rw [sizeLine_eq] at z; omega) ?_
  rw [← hl]
  exact ⟨.int (rows.length : Nat), H, I.tok _, ⟨_, rfl⟩, q⟩
theorem pe_dsetdN {o e f : Expr} {td ty tx : TE} {apos cpos : Pos} (hu : X.A.units + 16 < cLine) (ho : PE X o td) (he : PE X e ty) (hf : PE X f tx) (m : M2 X o "setdefault" apos e f cpos) : PE X (.Call (.Attribute o "setdefault" apos) [e, f] [] cpos) (tNSetd X.prog X.w td ty tx) := by
  refine ⟨fun pins s σ H Q I h => ?_⟩
  refine wpAny_Call_method m.base m.few m.line PySem.F.plainAttrs_dict PySem.F.slot_dict_setdefault PySem.F.type_dict_setdefault (thn (ho.run pins s σ H _ I h) fun u s1 ⟨x, H1, I1, rx, a, ex, ⟨rows0, d⟩, q1⟩ => ?_)
  subst ex
  cases rx
  obtain ⟨_, _, _, _, ob, es0, _, g1, g2, _⟩ := (show NdAt X.prog X.w a rows0 s1.heap from (I1.hok _ _ d).1)
  refine ⟨⟨ob, g1, g2.1⟩, fun b z => ?_, ?_⟩
  · cases z
    exact ⟨ob, g1, g2.2.1⟩
  rw [m.trees]
  refine Calls.callWith_builtin rfl (Calls.evalArgs_plain (Calls.spliced_cons (thn (he.run pins s1 σ H1 _ I1 q1) fun iv s2 ⟨y, H2, I2, ry, q2⟩ => Calls.spliced_cons (thn (hf.run pins s2 σ H2 _ I2 q2) fun fv s3 ⟨z, H3, I3, rz, rows, b, k, ea, ks, ey, nk, dep, few, qq⟩ => Calls.spliced_nil ?_))))
  obtain ⟨q3, q4⟩ := qq
  subst ey
  cases ry
  obtain ⟨lo, zl, xs, rel, dd⟩ := nd_dict I3 ea ks
  have hl := paired_len rel
  refine call_setdefault_heap (knd := nestedKind X.prog X.w) (k := k) (xs := xs) (by show X.A.in1.units + 8 < cLine; show X.A.units + 1 + 8 < cLine; omega) ⟨nk_is I3 k nk rfl, dep⟩ lo dd (fun p hp => ?_) (fun hn h' dd' sb => ?_) (by rw [← hl]; exact zl)
  · rcases val_at (k := k) rel with ⟨_, h2⟩ | ⟨v, p', h1, h2, h3⟩
    · rw [h2] at hp
      cases hp
    · rw [h2] at hp
      cases hp
      exact ⟨v, H3, I3.tok _, h3, q3 v h1⟩
  · rcases val_at (k := k) rel with ⟨h1, _⟩ | ⟨v, p', _, h2, _⟩
    · rw [storedH_new hn] at dd'
      obtain ⟨o', es, ep, e1, e2, e3, e4, _, e5⟩ := dd'
      have new : NdAt X.prog X.w a (rows ++ [(k, b, z)]) h' := ⟨lo, by rw [List.length_append]; exact few, xs ++ [(k, b, fv)], paired_snoc rel ⟨rfl, rfl, rz⟩, o', es, ep, e1, e2, e3, e4, e5⟩
      exact ⟨z, _, I3.write (e := a) (by rw [ea]; exact True.intro) (.inl rfl) (fun c u hc hu => (sb.2 c hc).trans hu) ⟨o', e1⟩ (nd_new new), rz, q4 h1⟩
    · rw [hn] at h2
      cases h2
end
end SWL
set_option Elab.async false
set_option linter.all false
set_option maxRecDepth 100000
set_option maxHeartbeats 4000000
namespace SWL
open PySem PySem.Spec PyProof.Rows L2 LamX
/-! two nested tuples, compared -/
def rEqN : R2 := fun x y H Q => ∃ ks ls, NkAt H x (.tup ks) ∧ NkAt H y (.tup ls) ∧ (NestedKey.tup ks).depth ≤ 64 ∧ Q (.bl (NestedKey.beq (.tup ks) (.tup ls))) H
section
variable {X : Cx}
theorem op_eqN (hu : X.A.units + 70 < cLine) : OpR X (compareOp .Eq) rEqN := by
  intro pins s σ H x y v u Q I rx ry h
  obtain ⟨ks, ls, h1, h2, dep, q⟩ := h
  have i1 := nk_is I _ h1 rx
  have i2 := nk_is I _ h2 ry
  cases i1 with
  | @tup a o vs n _ a1 a2 a3 a4 =>
    cases i2 with
    | @tup b o' ws m _ b1 b2 b3 b4 =>
      have n1 : vs.size = ks.length := by simpa using NestedAll.length _ _ a4
      have n2 : ws.size = ls.length := by simpa using NestedAll.length _ _ b4
      have dd : NestedKey.depthAll ks ≤ 64 := by
        have : NestedKey.depthAll ks + 1 ≤ 64 := dep
        omega
      refine PySem.SeqAt.eq_tupleAt ⟨_, a1, a2, _, a3⟩ ⟨_, b1, b2, _, b3⟩ (e := keyEqAt ks ls) (by omega) (fun j j1 j2 => ?_) ?_
      · have r : X.A.in1.units + min (NestedKey.depthAll ks) (NestedKey.depthAll ls) < cLine := by
          have : X.A.in1.units = X.A.units + 1 := rfl
          omega
        have e := eqAt_keys ks ls X.A.in1 s vs.toList ws.toList a4 b4 r j (by simpa using j1) (by simpa using j2)
        simpa using e
      · rw [n1, n2, beqAll_eq]
        exact ⟨.bl _, H, I.tok _, rfl, q⟩
end
end SWL
set_option Elab.async false
set_option linter.all false
set_option maxRecDepth 100000
set_option maxHeartbeats 4000000
namespace SWL
open PySem PySem.Spec PyProof.Rows L2 LamX
/-! sets of tuples of numbers and texts: the adding -/
abbrev MRow := Addr × List Key
abbrev mH (P : Program) (w : World) (k : List Key) : Int := tupleKeyHash (mixKind P w) k
abbrev IsM (P : Program) (w : World) (h : Heap) (k : List Key) (a : Addr) : Prop := IsTupleKey (mixKind P w) h k a
def rowsM (P : Program) (w : World) (L : List MRow) : List (Int × Value) := L.map fun p => (mH P w p.2, Value.ref p.1)
section
variable {P : Program} {w : World} {A : Around} {E : Value → Shared → Prop} {s : Shared}
theorem items_mix {k : List Key} {vs : List Value} (h : ItemsAre (mixKind P w) k vs) : ∀ v ∈ vs, (∃ i t, v = Value.int i t) ∨ ∃ z t, v = Value.str z t := by
  induction h with
  | nil => intro v hv; cases hv
  | @cons k0 v' ks vs h1 _ ih =>
    intro v hv
    rcases List.mem_cons.mp hv with e | hv
    · rcases keyIs_shape h1 with ⟨i, t, _, e2⟩ | ⟨x, t, _, e2⟩
      · rw [e]
        first
          | exact .inl ⟨i, t, e2⟩
          | (subst e2; exact .inl ⟨_, _, rfl⟩)
      · rw [e]
        first
          | exact .inr ⟨x, t, e2⟩
          | (subst e2; exact .inr ⟨_, _, rfl⟩)
    · exact ih v hv
theorem cls_item (n : Nat) {v : Value} (h : (∃ i t, v = Value.int i t) ∨ ∃ z t, v = Value.str z t) : ofAClassStatement n v = pure false := by
  rcases h with ⟨i, t, rfl⟩ | ⟨z, t, rfl⟩ <;> cases n <;> rfl
theorem cls_tup {k : List Key} {b : Addr} {Q : Bool → Shared → Prop} (hk : IsM P w s.heap k b) (h : Q false s) : wpAny (model P w) A (ofAClassStatement 8 (.ref b)) Q E s := by
  have hT := hk.typeIs
  obtain ⟨o, items, n, ho, _, hd, hi⟩ := hk
  unfold ofAClassStatement
  refine wpAny_bind (wpAny_typeOf hT ?_)
  dsimp only
  have e : (("tuple" : String) == "tuple") = true := by decide
  simp only [e, if_true, Bool.not_true, Bool.false_eq_true, if_false]
  try refine wpAny_bind (wpAny_pure ?_)
  try simp only [Bool.not_true, Bool.false_eq_true, if_false]
  show wpAny _ _ (seqItems? (.ref b) >>= _) _ _ s
  refine wpAny_bind (wpAny_seqItems ho hd ?_)
  dsimp only
  refine wpAny_bind ?_
  show wpAny _ _ (forIn items _ _) _ _ s
  rw [← Array.forIn_toList]
  refine wpAny_forIn_list _ (fun rest r s' => r.1 = none ∧ s' = s ∧ ∀ v ∈ rest, (∃ i t, v = Value.int i t) ∨ ∃ z t, v = Value.str z t) _ ?_ ?_ _ _ ⟨rfl, rfl, items_mix hi⟩
  · rintro v rest r s' ⟨hr, rfl, hall⟩
    rw [cls_item _ (hall v List.mem_cons_self)]
    refine wpAny_bind (wpAny_pure ?_)
    simp only [Bool.false_eq_true, if_false]
    exact wpAny_pure ⟨rfl, rfl, fun u hu' => hall u (List.mem_cons_of_mem _ hu')⟩
  · rintro ⟨r1, r2⟩ s' ⟨hr, rfl, _⟩
    simp only at hr
    subst hr
    exact wpAny_pure h
theorem val_item (n : Nat) {v : Value} (h : (∃ i t, v = Value.int i t) ∨ ∃ z t, v = Value.str z t) : ∃ b, hashByValue n v = pure b := by
  rcases h with ⟨i, t, rfl⟩ | ⟨z, t, rfl⟩
  · exact ⟨_, hashByValue_scannable n (x := .int i t) rfl⟩
  · exact ⟨_, hashByValue_scannable n (x := .str z t) rfl⟩
theorem val_tup {k : List Key} {b : Addr} {Q : Bool → Shared → Prop} (hk : IsM P w s.heap k b) (h : ∀ b, Q b s) : wpAny (model P w) A (hashByValue 8 (.ref b)) Q E s := by
  have hT := hk.typeIs
  obtain ⟨o, items, n, ho, _, hd, hi⟩ := hk
  unfold hashByValue
  refine wpAny_bind (wpAny_specialOf hT F.slot_tuple_hash.lookup ?_)
  show wpAny _ _ (seqItems? (.ref b) >>= _) _ _ s
  refine wpAny_bind (wpAny_seqItems ho hd ?_)
  refine wpAny_bind ?_
  show wpAny _ _ (forIn items _ _) _ _ s
  rw [← Array.forIn_toList]
  refine wpAny_forIn_list _ (fun rest r s' => s' = s ∧ ∀ v ∈ rest, (∃ i t, v = Value.int i t) ∨ ∃ z t, v = Value.str z t) _ ?_ ?_ _ _ ⟨rfl, items_mix hi⟩
  · rintro v rest r s' ⟨rfl, hall⟩
    obtain ⟨c, e⟩ := val_item 7 (hall v List.mem_cons_self)
    rw [e]
    refine wpAny_bind (wpAny_pure ?_)
    cases c with
    | true =>
      simp only [Bool.not_true, Bool.false_eq_true, if_false]
      exact wpAny_pure ⟨rfl, fun u hu' => hall u (List.mem_cons_of_mem _ hu')⟩
    | false =>
      simp only [Bool.not_false, if_true]
      exact wpAny_pure (wpAny_pure (h _))
  · rintro ⟨r1, r2⟩ s' ⟨rfl, _⟩
    cases r1 with
    | none => exact wpAny_pure (h _)
    | some b => exact wpAny_pure (h _)
theorem unseen {k : List Key} {b : Addr} {Q : Bool → Shared → Prop} (hk : IsM P w s.heap k b) {ys : List Value} (hy : ∀ y ∈ ys, ∃ k' c, y = Value.ref c ∧ IsM P w s.heap k' c) (h : Q false s) :
    wpAny (model P w) A (searchCouldBeSeen (.ref b) ys) Q E s := by
  unfold searchCouldBeSeen
  refine wpAny_bind ?_
  refine wpAny_forIn_list _ (fun rest r s' => r.1 = none ∧ s' = s ∧ ∀ y ∈ rest, ∃ k' c, y = Value.ref c ∧ IsM P w s.heap k' c) _ ?_ ?_ _ _ ⟨rfl, rfl, hy⟩
  · rintro v rest r s' ⟨hr, rfl, hall⟩
    obtain ⟨k', c, rfl, hc⟩ := hall v List.mem_cons_self
    have rest' : ∀ y ∈ rest, ∃ k' c, y = Value.ref c ∧ IsM P w s'.heap k' c := fun u hu' => hall u (List.mem_cons_of_mem _ hu')
    dsimp only
    by_cases hv : (b == c || (carriedByValue (.ref b) && carriedByValue (.ref c))) = true
    · exact wp_if_pos hv (wpAny_pure ⟨rfl, rfl, rest'⟩)
    · refine wp_if_neg hv ?_
      refine wpAny_bind (wpAny_eqIsQuiet_tuple hk ?_)
      simp only [Bool.not_true, Bool.false_eq_true, if_false]
      refine wpAny_bind (wpAny_eqIsQuiet_tuple hc ?_)
      simp only [Bool.not_true, Bool.false_eq_true, if_false]
      refine wpAny_bind (cls_tup hk ?_)
      simp only [Bool.false_eq_true, if_false]
      refine wpAny_bind (cls_tup hc ?_)
      simp only [Bool.false_eq_true, if_false]
      exact wpAny_pure ⟨rfl, rfl, rest'⟩
  · rintro ⟨r1, r2⟩ s' ⟨hr, rfl, _⟩
    simp only at hr
    subst hr
    exact wpAny_pure h
/-- the set at a, its rows in the table's sequence -/
structure MSet (P : Program) (w : World) (h : Heap) (a : Addr) (L : List MRow) (es : Array (Int × Value)) (ep : Nat) (t : SetTable) : Prop where
  ob : ∃ o, h.get? a = some o ∧ o.ExactSet ∧ o.data = .set es ep t
  rows : es.toList = rowsM P w L
  tab : TabOk t (L.map fun p => mH P w p.2)
  nd : (L.map (·.2)).Nodup
  tup : ∀ p ∈ L, IsM P w h p.2 p.1
  led : w.params.followText "set-order" = true ∨ t.led = true
  room : L.length * 5 < t.mask * 3
  few : L.length < 64
theorem rows_len {L : List MRow} {es : Array (Int × Value)} (h : es.toList = rowsM P w L) : es.size = L.length := by
  have h := congrArg List.length h
  unfold rowsM at h
  rw [Array.length_toList, List.length_map] at h
  exact h
theorem rows_get {L : List MRow} {es : Array (Int × Value)} (h : es.toList = rowsM P w L) {i : Nat} {p : MRow} (hp : L[i]? = some p) : es[i]? = some (mH P w p.2, Value.ref p.1) := by
  rw [← Array.getElem?_toList, h]
  unfold rowsM
  rw [List.getElem?_map, hp] <;> rfl
theorem tab_fits {hs : List Int} {t : SetTable} (T : TabOk t hs) {n : Nat} (hn : hs.length = n) (hm : n ≤ t.mask) : t.fits n = true := by
  have h1 := T.sz
  unfold SetTable.fits SetTable.fill
  rw [T.dm, Bool.and_eq_true, beq_iff_eq, decide_eq_true_eq]
  show t.place.size = n ∧ t.place.size + 0 ≤ t.mask
  omega
variable {a : Addr} {L : List MRow} {es : Array (Int × Value)} {ep : Nat} {t : SetTable}
theorem MSet.fits (R : MSet P w s.heap a L es ep t) : t.fits es.size = true := by
  have := R.room
  exact tab_fits R.tab (by rw [List.length_map, rows_len R.rows]) (by rw [rows_len R.rows]; omega)
theorem MSet.even (R : MSet P w s.heap a L es ep t) : ¬ t.gaveWay = true := by
  unfold SetTable.gaveWay
  rw [mask_odd R.tab.mok]
  decide
/-- the search from the c-th step of its way on -/
theorem seek (R : MSet P w s.heap a L es ep t) {x : Addr} {k : List Key} (hx : IsM P w s.heap k x) (hu : A.units < cLine) {K : Nat} (hKf : K < 10 * SetTable.turns t.mask)
    (hK : way t.mask (mH P w k) K ∉ t.place.toList) (hKb : ∀ c, c < K → way t.mask (mH P w k) c ∈ t.place.toList) {Q : SetFound → Shared → Prop}
    (hin : k ∈ L.map (·.2) → Q (.there none) s) (hout : k ∉ L.map (·.2) → Q (.free (way t.mask (mH P w k) K) false) s) :
    ∀ (f c : Nat) (stand : Option SetTable.Probe), stand.getD (t.probeStart (mH P w k)) = nth t.mask (runAt t.mask (SetTable.bits (mH P w k) % (t.mask + 1)) (SetTable.bits (mH P w k))) c → c ≤ K → K - c < f →
      (∀ (i : Nat) p, L[i]? = some p → p.2 = k → ∃ c', c ≤ c' ∧ c' < K ∧ t.place.toList[i]? = some (way t.mask (mH P w k) c')) →
      wpAny (model P w) A (setSearchFrom a (.ref x) (mH P w k) true f stand) Q E s
  | 0, c, stand, _, _, hf, _ => absurd hf (Nat.not_lt_zero _)
  | f + 1, c, stand, hst, hc, hf, hre => by
    obtain ⟨o, ho, hex, hd⟩ := R.ob
    generalize hB : runAt t.mask (SetTable.bits (mH P w k) % (t.mask + 1)) (SetTable.bits (mH P w k)) = B at hst
    have wB : ∀ q, way t.mask (mH P w k) q = (nth t.mask B q).j := fun q => by rw [← hB]
    rw [setSearchFrom_succ]
    refine wpAny_bind (wpAny_setState_of ho hd R.fits ?_)
    dsimp only
    refine wp_if_neg R.even ?_
    try refine wpAny_bind (wpAny_pure ?_)
    have dum : ∀ (n : Nat) (p : SetTable.Probe), p.dummy = none → (nth t.mask p n).dummy = none := by
      intro n
      induction n with
      | zero => exact fun p h => h
      | succ n ih =>
        intro p h
        refine ih (adv t.mask p) ?_
        unfold adv
        split <;> exact h
    have sh : ∀ q, nth t.mask (nth t.mask B c) q = nth t.mask B (c + q) := fun q => (nth_add t.mask c _ q).symm
    have hashAt : ∀ (i : Nat) p, L[i]? = some p → (fun i => (es[i]?.map (·.1)).getD 0) i = mH P w p.2 := fun i p hp => by
      show (es[i]?.map (·.1)).getD 0 = _
      rw [rows_get R.rows hp] <;> rfl
    have spec := go_spec t R.tab.ris R.tab.dm (fun i => (es[i]?.map (·.1)).getD 0) (mH P w k) (10 * SetTable.turns t.mask) (K - c) (nth t.mask B c) (dum c _ (by rw [← hB]; rfl)) (by omega)
      (fun q hq => by rw [sh, ← wB]; exact hKb (c + q) (by omega)) (by rw [sh, ← wB, show c + (K - c) = K by omega]; exact hK)
    rcases spec with ⟨q, i, hq, hi, hh, hno, hpr⟩ | ⟨hno, hpr⟩
    · have hpr' : t.probe (fun i => (es[i]?.map (·.1)).getD 0) (mH P w k) (stand.getD (t.probeStart (mH P w k))) = some (.candidate (way t.mask (mH P w k) (c + q)) i (nth t.mask B (c + (q + 1)))) := by
        rw [hst, wB, ← sh, ← sh]
        exact hpr
      rw [hpr']
      dsimp only
      rw [sh, ← wB] at hi
      have hil : i < L.length := by
        have h1 : i < t.place.toList.length := (List.getElem?_eq_some_iff.mp hi).1
        have h2 := R.tab.sz
        rw [List.length_map] at h2
        rw [Array.length_toList] at h1
        omega
      obtain ⟨p, hp⟩ : ∃ p, L[i]? = some p := ⟨_, List.getElem?_eq_getElem hil⟩
      have hmem : p ∈ L := List.mem_of_getElem? hp
      have rest : wpAny (model P w) A (searchRest a (.ref x) (mH P w k) true f es t (way t.mask (mH P w k) (c + q)) i (nth t.mask B (c + (q + 1)))) Q E s := by
        unfold searchRest
        rw [rows_get R.rows hp]
        dsimp only
        refine wpAny_bind (wpAny_holding (wpAny_eqBool_tuple hu (R.tup p hmem) hx ?_))
        refine wpAny_bind (wpAny_setState_of ho hd R.fits ?_)
        dsimp only
        by_cases hkk : p.2 = k
        · exact wp_if_pos (by simp [hkk]) (wpAny_pure (hin (List.mem_map.mpr ⟨p, hmem, hkk⟩)))
        · refine wp_if_neg (by simp [hkk]) ?_
          try refine wpAny_bind (wpAny_pure ?_)
          rw [sameMem]
          dsimp only
          have hsl : t.slot (way t.mask (mH P w k) (c + q)) = .live i := slot_live R.tab.ris hi
          simp only [if_true, hsl, rows_get R.rows hp]
          refine wpAny_bind (wpAny_isSame_ref_self (wpAny_bind (wpAny_pure ?_)))
          simp only [if_true]
          refine wp_if_neg (by simp [hkk]) ?_
          refine seek R hx hu hKf hK hKb hin hout f (c + (q + 1)) _ (by rw [hB]; rfl) (by omega) (by omega) fun i0 p0 h0 hk0 => ?_
          obtain ⟨c', a1, a2, a3⟩ := hre i0 p0 h0 hk0
          refine ⟨c', ?_, a2, a3⟩
          rcases Nat.lt_trichotomy c' (c + q) with z | z | z
          · exact absurd ((hashAt i0 p0 h0).trans (congrArg (mH P w) hk0)) (hno (c' - c) i0 (by omega) (by rw [sh, ← wB, show c + (c' - c) = c' by omega]; exact a3))
          · exfalso
            rw [z] at a3
            have s0 := slot_live R.tab.ris a3
            rw [hsl] at s0
            injection s0 with s0
            rw [← s0, hp] at h0
            exact hkk ((congrArg Prod.snd (Option.some.inj h0)).trans hk0)
          · omega
      by_cases hl : t.led = true
      · refine wp_if_neg (by simp [hl]) ?_
        try refine wpAny_bind (wpAny_pure ?_)
        exact rest
      · refine wp_if_pos (by simp [hl]) ?_
        refine wpAny_bind (unseen hx (fun y hy => ?_) ?_)
        · obtain ⟨e, he, ee⟩ := List.mem_map.mp hy
          have he1 : e ∈ es ∧ e.1 = mH P w k := by simpa using he
          have he2 : e ∈ es.toList := by simpa using he1.1
          rw [R.rows] at he2
          obtain ⟨p2, hp2, e2⟩ := List.mem_map.mp he2
          refine ⟨p2.2, p2.1, ?_, R.tup p2 hp2⟩
          rw [← ee, ← e2]
        · refine wp_if_neg (by decide) ?_
          try refine wpAny_bind (wpAny_pure ?_)
          exact rest
    · have hpr' : t.probe (fun i => (es[i]?.map (·.1)).getD 0) (mH P w k) (stand.getD (t.probeStart (mH P w k))) = some (.empty (way t.mask (mH P w k) K) none) := by
        have e2 : way t.mask (mH P w k) K = (nth t.mask (nth t.mask B c) (K - c)).j := by
          rw [sh, ← wB, show c + (K - c) = K by omega]
        rw [hst, e2]
        exact hpr
      rw [hpr']
      dsimp only
      refine wpAny_pure (hout fun hm => ?_)
      obtain ⟨p0, h0, hk0⟩ := List.mem_map.mp hm
      obtain ⟨i0, hi0, e0⟩ := List.getElem_of_mem h0
      have h00 : L[i0]? = some p0 := by rw [List.getElem?_eq_getElem hi0, e0]
      obtain ⟨c', a1, a2, a3⟩ := hre i0 p0 h00 hk0
      exact hno (c' - c) i0 (by omega) (by rw [sh, ← wB, show c + (c' - c) = c' by omega]; exact a3) ((hashAt i0 p0 h00).trans (congrArg (mH P w) hk0))
theorem seek_all (R : MSet P w s.heap a L es ep t) {x : Addr} {k : List Key} (hx : IsM P w s.heap k x) (hu : A.units < cLine) {Q : SetFound → Shared → Prop}
    (hin : k ∈ L.map (·.2) → Q (.there none) s)
    (hout : ∀ K, k ∉ L.map (·.2) → way t.mask (mH P w k) K ∉ t.place.toList → (∀ c, c < K → way t.mask (mH P w k) c ∈ t.place.toList) → Q (.free (way t.mask (mH P w k) K) false) s) :
    wpAny (model P w) A (setSearch a (.ref x) (mH P w k) true) Q E s := by
  have hroom := R.room
  obtain ⟨K, hKf, hK, hKb⟩ := R.tab.first (by rw [List.length_map]; omega) (mH P w k)
  have hbig : K < 100000 := by
    have : 10 * SetTable.turns t.mask ≤ 1420 := by
      unfold SetTable.turns
      rcases R.tab.mok with e | e | e <;> omega
    omega
  unfold setSearch
  refine seek R hx hu hKf hK hKb hin (fun hn => hout K hn hK hKb) 100000 0 none rfl (Nat.zero_le _) (by omega) fun i p hp hk => ?_
  have hi : (L.map fun p => mH P w p.2)[i]? = some (mH P w k) := by rw [List.getElem?_map, hp, ← hk] <;> rfl
  have hil : i < t.place.toList.length := by
    have h1 : i < L.length := (List.getElem?_eq_some_iff.mp hp).1
    have h2 := R.tab.sz
    rw [List.length_map] at h2
    rw [Array.length_toList]
    omega
  have hj := List.getElem?_eq_getElem hil
  obtain ⟨c, hc, e⟩ := R.tab.before hK hi hj
  exact ⟨c, Nat.zero_le _, hc, by rw [hj, e]⟩
theorem isM_but {h h' : Heap} {k : List Key} {a b : Addr} {o : Obj} {es : Array (Int × Value)} {ep : Nat} {t : SetTable} (hb : IsM P w h k b) (ho : h.get? a = some o) (hd : o.data = .set es ep t) (hs : Heap.SameBut a h h') : IsM P w h' k b := by
  obtain ⟨o', items, n, ho', hc, hd', hi⟩ := hb
  have hne : b ≠ a := by
    rintro rfl
    obtain rfl : o' = o := Option.some.inj (ho'.symm.trans ho)
    rw [hd] at hd'
    exact nomatch hd'
  exact ⟨o', items, n, (hs.2 b hne).trans ho', hc, hd', hi⟩
theorem isM_keep {h h' : Heap} {k : List Key} {b : Addr} (x : IsM P w h k b) (hk : ∀ c o, h.get? c = some o → h'.get? c = some o) : IsM P w h' k b := by
  obtain ⟨o, items, n, ho, r⟩ := x
  exact ⟨o, items, n, hk b o ho, r⟩
/-- rows in the sequence of a new table -/
theorem rows_order (L : List MRow) (es : Array (Int × Value)) (order : Array Nat) (hr : es.toList = rowsM P w L) (hp : order.toList.Perm (List.range L.length)) :
    ∃ L2 : List MRow, (order.filterMap (es[·]?)).toList = rowsM P w L2 ∧ L2.Perm L ∧ (L2.map fun p => mH P w p.2) = order.toList.map fun i => (es.map (·.1)).getD i 0 := by
  have hsz := rows_len hr
  refine ⟨order.toList.filterMap fun i => L[i]?, ?_, ?_, ?_⟩
  · rw [show (order.filterMap (es[·]?)).toList = order.toList.filterMap (fun i => es[i]?) from by first | exact Array.toList_filterMap | simp]
    unfold rowsM
    rw [List.map_filterMap]
    refine congrArg (fun f => List.filterMap f order.toList) (funext fun i => ?_)
    rw [← Array.getElem?_toList, hr]
    unfold rowsM
    rw [List.getElem?_map]
  · have h1 : (order.toList.filterMap fun i => L[i]?).Perm ((List.range L.length).filterMap fun i => L[i]?) := hp.filterMap _
    have h2 : ∀ n, n ≤ L.length → (List.range n).filterMap (fun i => L[i]?) = L.take n := by
      intro n
      induction n with
      | zero => intro _; rfl
      | succ n ih =>
        intro hn
        have hlt : n < L.length := hn
        rw [List.range_succ, List.filterMap_append, ih (Nat.le_of_lt hlt), List.take_succ, List.getElem?_eq_getElem hlt]
        rw [List.filterMap_cons_some (List.getElem?_eq_getElem hlt)] <;> rfl
    rw [h2 L.length (Nat.le_refl _), List.take_length] at h1
    exact h1
  · have key : ∀ l : List Nat, (∀ i ∈ l, i < L.length) → ((l.filterMap fun i => L[i]?).map fun p => mH P w p.2) = l.map fun i => (es.map (·.1)).getD i 0 := by
      intro l
      induction l with
      | nil => intro _; rfl
      | cons i l ih =>
        intro hl
        have hi := hl i List.mem_cons_self
        have e4 : (es.map (·.1)).getD i 0 = mH P w (L[i]).2 := by
          have e5 : (es.map (·.1))[i]? = some (mH P w (L[i]).2) := by rw [Array.getElem?_map, rows_get hr (List.getElem?_eq_getElem hi)] <;> rfl
          simp [Array.getD_eq_getD_getElem?, e5]
        rw [List.filterMap_cons_some (List.getElem?_eq_getElem hi), List.map_cons, List.map_cons, ih fun j hj => hl j (List.mem_cons_of_mem _ hj), e4]
    exact key order.toList fun i hi => List.mem_range.mp (hp.mem_iff.mp hi)
end
end SWL
set_option Elab.async false
set_option linter.all false
set_option maxRecDepth 100000
set_option maxHeartbeats 4000000
namespace SWL
open PySem PySem.Spec PyProof.Rows L2 LamX
section
variable {P : Program} {w : World} {A : Around} {E : Value → Shared → Prop} {s : Shared} {a : Addr} {L : List MRow} {es : Array (Int × Value)} {ep : Nat} {t : SetTable}
/-- the table laid anew, larger -/
theorem m_relay {o : Obj} (ho : s.heap.get? a = some o) (hex : o.ExactSet) (hd : o.data = .set es ep t) (hrows : es.toList = rowsM P w L) (T0 : TabOk t (L.map fun p => mH P w p.2)) (hfl : es.size ≤ t.mask)
    (nd : (L.map (·.2)).Nodup) (tup : ∀ p ∈ L, IsM P w s.heap p.2 p.1) (ld : w.params.followText "set-order" = true ∨ t.led = true) (few : L.length < 64) {wanted M : Nat}
    (hw : SetTable.sizeAbove wanted - 1 = M) (hM : MaskOk M) (hw2 : SetTable.sizeAbove wanted ≤ 128) (hn : L.length * 5 < M * 3) {Q : Unit → Shared → Prop}
    (hQ : ∀ h' L' es' ep' t', Heap.SameBut a s.heap h' → MSet P w h' a L' es' ep' t' → L'.Perm L → Q () { s with heap := h' }) : wpAny (model P w) A (setRelay a wanted) Q E s := by
  have hsl := rows_len hrows
  have hfits : t.fits es.size = true := tab_fits T0 (by rw [List.length_map, hsl]) hfl
  obtain ⟨t', order, e, hp, T, em, el, ep', ed⟩ := relaid_ok t (hs := es.map (·.1)) (wanted := wanted) hw hM (by rw [Array.size_map, hsl]; omega)
  rw [Array.size_map, hsl] at hp
  obtain ⟨L2, r1, r2, r3⟩ := rows_order L es order hrows hp
  rw [← r3] at T
  have hs2 : (order.filterMap (es[·]?)).size = es.size := by rw [rows_len r1, r2.length_eq, hsl]
  rw [setRelay_eq]
  refine wpAny_bind (wpAny_setState_of ho hd hfits ?_)
  dsimp only
  refine wp_if_neg (by rw [sizeLine_eq]; omega) ?_
  try refine wpAny_bind (wpAny_pure ?_)
  rw [e]
  dsimp only
  refine wpAny_bind ?_
  refine wp_if_neg (by rw [hs2]; simp) ?_
  try refine wpAny_bind (wpAny_pure ?_)
  refine wpAny_pure ?_
  dsimp only
  refine wpAny_storeSet_of ho hd ?_ (by rw [hs2, hsl, sizeLine_eq]; omega)
  have sb : Heap.SameBut a s.heap (s.heap.update a (Obj.putSet (order.filterMap (es[·]?)) t')) := Heap.SameBut.update ..
  refine hQ _ L2 (order.filterMap (es[·]?)) (ep + 1) t' sb ?_ r2
  refine ⟨⟨_, store_at ho hd, ⟨hex.1, hex.2.1, hex.2.2⟩, rfl⟩, r1, T, (r2.map (·.2)).nodup_iff.mpr nd, fun p hpm => isM_but (tup p (r2.mem_iff.mp hpm)) ho hd sb, by rw [el]; exact ld, ?_, by rw [r2.length_eq]; exact few⟩
  rw [r2.length_eq, em]
  exact hn
/-- one tuple is added -/
theorem m_add (R : MSet P w s.heap a L es ep t) {x : Addr} {k : List Key} (hx : IsM P w s.heap k x) (hu : A.units < cLine) (hfew : L.length + 1 < 64) {Q : Bool → Shared → Prop}
    (hQ : ∀ b h' L' es' ep' t', Heap.SameBut a s.heap h' → MSet P w h' a L' es' ep' t' → (k ∈ L.map (·.2) → L' = L) → (k ∉ L.map (·.2) → L'.Perm ((x, k) :: L)) → Q b { s with heap := h' }) :
    wpAny (model P w) A (setAddHashed a (.ref x) (mH P w k)) Q E s := by
  obtain ⟨o, ho, hex, hd⟩ := R.ob
  have hsl := rows_len R.rows
  have hroom := R.room
  unfold setAddHashed
  refine wpAny_holding ?_
  rw [show (100000 : Nat) = 99999 + 1 from rfl, setAddHashedIn_succ]
  refine wpAny_bind (wpAny_setState_of ho hd R.fits ?_)
  dsimp only
  refine wp_if_neg (by simp [byScan, Value.scannable]) ?_
  try refine wpAny_bind (wpAny_pure ?_)
  refine wpAny_bind (seek_all R hx hu (fun hm => ?_) fun K hm hK hb => ?_)
  · dsimp only
    exact wpAny_pure (hQ false s.heap L es ep t (Heap.SameBut.refl a s.heap) R (fun _ => rfl) fun z => absurd hm z)
  · dsimp only
    refine wpAny_bind (wpAny_setState_of ho hd R.fits ?_)
    dsimp only
    obtain ⟨q1, q2, q3, q4, q5, q6, q7, q8, q9⟩ := R.tab.put hK hb
    generalize hpt : t.put (way t.mask (mH P w k) K) = pt at q1 q3 q4 q5 q6 q7 q8 q9 ⊢
    obtain ⟨t1, p⟩ := pt
    dsimp only at q1 q3 q4 q5 q6 q7 q8 q9 ⊢
    subst q1
    have hin : (SetTable.insertAt es (SetTable.below t.place (way t.mask (mH P w k) K)) (mH P w k, Value.ref x)).toList = rowsM P w (L.take (SetTable.below t.place (way t.mask (mH P w k) K)) ++ (x, k) :: L.drop (SetTable.below t.place (way t.mask (mH P w k) K))) := by
      rw [SetTable.toList_insertAt, R.rows]
      unfold rowsM
      rw [List.map_append, List.map_cons, List.map_take, List.map_drop]
    generalize hpp : SetTable.below t.place (way t.mask (mH P w k) K) = p at q2 q3 hin ⊢
    have pm := put_perm L p (x, k)
    have hlen : (L.take p ++ (x, k) :: L.drop p).length = L.length + 1 := pm.length_eq
    have hhs : (L.take p ++ (x, k) :: L.drop p).map (fun p => mH P w p.2) = (L.map fun p => mH P w p.2).take p ++ mH P w k :: (L.map fun p => mH P w p.2).drop p := by
      rw [List.map_append, List.map_cons, List.map_take, List.map_drop]
    rw [← hhs] at q3
    have nd1 : ((L.take p ++ (x, k) :: L.drop p).map (·.2)).Nodup := by
      refine (pm.map (·.2)).nodup_iff.mpr ?_
      rw [List.map_cons]
      exact List.nodup_cons.mpr ⟨hm, R.nd⟩
    have hes := rows_len hin
    rw [hlen] at hes
    generalize SetTable.insertAt es p (mH P w k, Value.ref x) = es1 at hin hes ⊢
    generalize L.take p ++ (x, k) :: L.drop p = L1 at pm hlen q3 nd1 hin
    -- whatever the table says of what is carried by value
    have main : ∀ t1' : SetTable, TabOk t1' (L1.map fun p => mH P w p.2) → t1'.mask = t.mask → t1'.led = t.led → t1'.fill = L.length + 1 → wpAny (model P w) A (do
        storeSet a es1 t1'
        if !false && t1'.tooFull then setRelay a (SetTable.grown (es.size + 1))
        return true) Q E s := fun t1 q3 q4 q5 q9 => by
      refine wpAny_bind (wpAny_storeSet_of ho hd ?_ (by rw [hes, sizeLine_eq]; omega))
      have sb : Heap.SameBut a s.heap (s.heap.update a (Obj.putSet es1 t1)) := Heap.SameBut.update ..
      have ho1 := store_at (es' := es1) (t' := t1) ho hd
      generalize s.heap.update a (Obj.putSet es1 t1) = h1 at sb ho1 ⊢
      have tup1 : ∀ p ∈ L1, IsM P w h1 p.2 p.1 := fun p hp => by
        rcases List.mem_cons.mp (pm.mem_iff.mp hp) with e | hp
        · rw [e]; exact isM_but hx ho hd sb
        · exact isM_but (R.tup p hp) ho hd sb
      have ld1 : w.params.followText "set-order" = true ∨ t1.led = true := by rw [q5]; exact R.led
      by_cases hf : t1.tooFull = true
      · first
          | (refine wpAny_bind ?_; refine wp_if_pos (by simp [hf]) ?_)
          | (refine wp_if_pos (by simp [hf]) ?_; refine wpAny_bind ?_)
        have hfull : (L.length + 1) * 5 ≥ t1.mask * 3 := by
          have h := hf
          unfold SetTable.tooFull at h
          rw [decide_eq_true_eq, q9] at h
          exact h
        rw [hsl]
        have cases2 : (t.mask = 7 ∧ L.length = 4) ∨ (t.mask = 31 ∧ L.length = 18) := by
          rcases R.tab.mok with e | e | e
          · left; rw [q4, e] at hfull; rw [e] at hroom; exact ⟨e, by omega⟩
          · right; rw [q4, e] at hfull; rw [e] at hroom; exact ⟨e, by omega⟩
          · exfalso; rw [q4, e] at hfull; omega
        have go : ∀ M, SetTable.sizeAbove (SetTable.grown (L.length + 1)) - 1 = M → MaskOk M → SetTable.sizeAbove (SetTable.grown (L.length + 1)) ≤ 128 → (L.length + 1) * 5 < M * 3 →
            wpAny (model P w) A (setRelay a (SetTable.grown (L.length + 1))) (fun _ s' => wpAny (model P w) A (pure true) Q E s') E { s with heap := h1 } := fun M h1' h2' h3' h4' => by
          refine m_relay (s := { s with heap := h1 }) ho1 ⟨hex.1, hex.2.1, hex.2.2⟩ rfl hin q3 (by rw [hes, q4]; rcases cases2 with ⟨e, e2⟩ | ⟨e, e2⟩ <;> omega) nd1 tup1 ld1 (by rw [hlen]; exact hfew) h1' h2' h3' (by rw [hlen]; exact h4') ?_
          intro h2 L2 es2 ep2 t2 sb2 R2 pm2
          refine wpAny_pure (hQ true h2 L2 es2 ep2 t2 (sb.trans sb2) R2 (fun z => absurd z hm) fun _ => pm2.trans pm)
        rcases cases2 with ⟨_, e2⟩ | ⟨_, e2⟩
        · refine go 31 (by rw [e2, size_20]) (.inr (.inl rfl)) (by rw [e2, size_20]; decide) (by omega)
        · refine go 127 (by rw [e2, size_76]) (.inr (.inr rfl)) (by rw [e2, size_76]; decide) (by omega)
      · first
          | refine wp_if_neg (by simp [hf]) ?_
          | (refine wpAny_bind ?_; refine wp_if_neg (by simp [hf]) ?_; refine wpAny_pure ?_)
        refine wpAny_pure (hQ true h1 L1 es1 (ep + 1) t1 sb ⟨⟨_, ho1, ⟨hex.1, hex.2.1, hex.2.2⟩, rfl⟩, hin, q3, nd1, tup1, ld1, ?_, by rw [hlen]; exact hfew⟩ (fun z => absurd z hm) fun _ => pm)
        have h := hf
        unfold SetTable.tooFull at h
        rw [decide_eq_true_eq, q9] at h
        rw [hlen]
        omega
    have q9' : t1.fill = L.length + 1 := by rw [q9, List.length_map]
    have off : ∀ T : TabOk t1 (L1.map fun p => mH P w p.2), TabOk { t1 with plain := false } (L1.map fun p => mH P w p.2) := fun T => ⟨T.ris, T.dm, T.sz, T.mok, T.bd, T.reach⟩
    by_cases pl : t1.plain = true
    · first
        | (refine wpAny_bind ?_; refine wp_if_pos pl ?_; refine val_tup hx fun b => ?_)
        | refine wp_if_pos pl (wpAny_bind (val_tup hx fun b => ?_))
      cases b with
      | true => exact main t1 q3 q4 q5 q9'
      | false => exact main { t1 with plain := false } (off q3) q4 q5 q9'
    · first
        | (refine wpAny_bind ?_; refine wp_if_neg pl ?_; refine wpAny_pure ?_)
        | refine wp_if_neg pl (wpAny_bind (wpAny_pure ?_))
      exact main t1 q3 q4 q5 q9'
theorem m_fresh {h : Heap} {a : Addr} (ho : h.get? a = some (set0 w)) : MSet P w h a [] #[] 0 (.fresh 0 0 (!w.params.followText "set-order")) where
  ob := ⟨_, ho, ⟨rfl, rfl, rfl⟩, rfl⟩
  rows := rfl
  tab := ⟨List.Pairwise.nil, rfl, rfl, .inl rfl, fun x hx => (by cases hx), fun i h j hi => (by simp at hi)⟩
  nd := List.nodup_nil
  tup := fun p hp => (by cases hp)
  led := by
    show _ ∨ (!w.params.followText "set-order") = true
    cases w.params.followText "set-order"
    · exact .inr rfl
    · exact .inl rfl
  room := by
    show 0 * 5 < 7 * 3
    decide
  few := by
    show 0 < 64
    decide
end
end SWL
set_option Elab.async false
set_option linter.all false
set_option maxRecDepth 100000
set_option maxHeartbeats 4000000
namespace SWL
open PySem PySem.Spec PyProof.Rows L2 LamX
/-! set(a list of tuples), sorted(the set) -/
/-- the set holds each key of these rows once -/
structure Each1 (ks L : List MRow) : Prop where
  sub : ∀ p ∈ L, p ∈ ks
  all : ∀ p ∈ ks, p.2 ∈ L.map (·.2)
  nd : (L.map (·.2)).Nodup
structure MRaw (P : Program) (w : World) (h : Heap) (a : Addr) (L : List MRow) : Prop where
  ex : ∃ o es ep t, h.get? a = some o ∧ o.ExactSet ∧ o.data = .set es ep t ∧ es.toList = rowsM P w L ∧ t.fits es.size = true ∧ Ris t.place.toList ∧ (w.params.followText "set-order" = true ∨ t.led = true)
  few : L.length < 64
  nd : (L.map (·.2)).Nodup
def MsO (P : Program) (w : World) (a : Addr) (L : List MRow) : HO := .ext fun h => MRaw P w h a L
theorem msO_new {P : Program} {w : World} {H : Hp} {h : Heap} {a : Addr} {L : List MRow} (x : MRaw P w h a L) : ObjOk P w H h a (MsO P w a L) := by
  refine ⟨x, (by obtain ⟨o, _, _, _, ho, _⟩ := x.ex; exact ⟨o, ho⟩), fun h1 h2 y k => ?_⟩
  obtain ⟨⟨o, es, ep, t, ho, r⟩, y2, y3⟩ := (show MRaw P w h1 a L from y)
  exact ⟨⟨o, es, ep, t, k _ ho, r⟩, y2, y3⟩
section
variable {P : Program} {w : World} {A : Around} {E : Value → Shared → Prop} {s : Shared}
theorem MSet.raw {h : Heap} {a : Addr} {L : List MRow} {es : Array (Int × Value)} {ep : Nat} {t : SetTable} (R : MSet P w h a L es ep t) : MRaw P w h a L := by
  obtain ⟨o, ho, hex, hd⟩ := R.ob
  have := R.room
  exact ⟨⟨o, es, ep, t, ho, hex, hd, R.rows, tab_fits R.tab (by rw [List.length_map, rows_len R.rows]) (by rw [rows_len R.rows]; omega), R.tab.ris, R.led⟩, R.few, R.nd⟩
theorem MSet.stay {h h' : Heap} {a : Addr} {L : List MRow} {es : Array (Int × Value)} {ep : Nat} {t : SetTable} (R : MSet P w h a L es ep t) (ha : ∀ o, h.get? a = some o → h'.get? a = some o) (ht : ∀ p ∈ L, IsM P w h' p.2 p.1) : MSet P w h' a L es ep t := by
  obtain ⟨o, ho, r⟩ := R.ob
  exact ⟨⟨o, ha o ho, r⟩, R.rows, R.tab, R.nd, ht, R.led, R.room, R.few⟩
theorem m_fill {l : Addr} {items : Array Value} (ks : List MRow) {Q : Value → Shared → Prop} (hh : A.handled = none) (hl : s.heap.IsList l items) (hit : items.toList = ks.map fun p => Value.ref p.1)
    (hk : ∀ p ∈ ks, IsM P w s.heap p.2 p.1) (hfew : ks.length < 64) (hu : A.units + 16 < cLine)
    (q : ∀ (h' : Heap) (tk : Nat) (L : List MRow), MRaw P w h' s.heap.objs.size L → Each1 ks L → (∀ b o, s.heap.get? b = some o → h'.get? b = some o) → Q (.ref s.heap.objs.size) { s with heap := h', toks := tk }) :
    wpAny (model P w) A (call (.type "set") [.ref l]) Q E s := by
  have hisz : items.size = ks.length := by
    have q := congrArg List.length hit
    rw [Array.length_toList, List.length_map] at q
    exact q
  refine set_by fun A' E' hA hU => ?_
  have hh' : A'.handled = none := hA.trans hh
  have hS : (s.heap.push (set0 w)).get? s.heap.objs.size = some (set0 w) := Heap.get?_push_size _ rfl
  obtain ⟨ol, hol, hcl, nl, hdl⟩ := hl
  obtain ⟨ocls, odict, odata, oslots⟩ := ol
  simp only at hcl hdl
  subst hcl
  subst hdl
  have hlS : l < s.heap.objs.size := Heap.lt_size hol
  have hol' : (s.heap.push (set0 w)).get? l = some { cls := .type "list", dict := odict, data := .seq items nl, slots := oslots } := Heap.get?_push_of_some _ hol
  have hl1 : (s.heap.push (set0 w)).IsList l items := ⟨_, hol', rfl, nl, rfl⟩
  have hsls := F.sub_list_set
  have hslf := F.sub_list_frozenset
  have hne : (Value.type "list" == Value.type "dict") = false := by decide
  unfold Builtin.Frozenset.updateFrom
  generalize hPI : pyIter = PI
  wp_walk
  subst hPI
  refine wpAny_pyIter_list hl1 ?_
  refine wpAny_bind (wpAny_runValue ?_)
  have sz1 : (s.heap.push (set0 w)).objs.size = s.heap.objs.size + 1 := size_push' _ _
  have hneI : l ≠ (s.heap.push (set0 w)).objs.size := by
    rw [sz1]
    exact Nat.ne_of_lt (Nat.lt_succ_of_lt hlS)
  have away : s.heap.objs.size ∉ [(s.heap.push (set0 w)).objs.size, l] := by
    rw [sz1]
    simp only [List.mem_cons, List.not_mem_nil, or_false, not_or]
    exact ⟨Nat.ne_of_lt (Nat.lt_succ_self _), Nat.ne_of_gt hlS⟩
  have up : ∀ o b u, s.heap.get? b = some u → ((s.heap.push (set0 w)).push o).get? b = some u := fun o b u e => Heap.get?_push_of_some _ (Heap.get?_push_of_some _ e)
  have lt : ∀ b u, s.heap.get? b = some u → b ≠ s.heap.objs.size ∧ b ≠ (s.heap.push (set0 w)).objs.size := fun b u e => by
    have h := Heap.lt_size e
    exact ⟨Nat.ne_of_lt h, Nat.ne_of_lt (by rw [sz1]; exact Nat.lt_succ_of_lt h)⟩
  have at_ : ∀ p ∈ ks, ∃ u, s.heap.get? p.1 = some u := fun p hp => by
    obtain ⟨o, _, _, ho, _⟩ := hk p hp
    exact ⟨o, ho⟩
  have kept : ∀ p ∈ ks, ∀ h : Heap, (∀ b u, s.heap.get? b = some u → h.get? b = some u) → IsM P w h p.2 p.1 := fun p hp h k => isM_keep (hk p hp) k
  refine fill_loop (P := P) (w := w) (A := A') (n := items.size) (wr := [(s.heap.push (set0 w)).objs.size]) ((Walks.list (by simp [hh']) _ l hneI items).toS) away
    (fun i h => (∀ b u, s.heap.get? b = some u → h.get? b = some u) ∧ ∃ L es ep t, MSet P w h s.heap.objs.size L es ep t ∧ (∀ p ∈ L, p ∈ ks.take i) ∧ (∀ p ∈ ks.take i, p.2 ∈ L.map (·.2)) ∧ L.length ≤ i)
    (fun i h h' ⟨g, L, es, ep, t, x, g1, g2, g3⟩ k => ?_) ?_ items.size 0 _ (by omega) ⟨⟨_, Heap.get?_push_size _ rfl, rfl, rfl⟩, hl1.push _⟩ ⟨up _, [], #[], 0, _, m_fresh (Heap.get?_push_of_some _ hS), (fun p hp => by cases hp), (fun p hp => by simp at hp), Nat.le_refl _⟩ ?_
  · have g' : ∀ b u, s.heap.get? b = some u → h'.get? b = some u := fun b u e => k b u (by simpa using (lt b u e).2) (g b u e)
    exact ⟨g', L, es, ep, t, x.stay (fun o e => k _ o (by rw [sz1]; simp) e) (fun p hp => kept p (List.mem_of_mem_take (g1 p hp)) h' g'), g1, g2, g3⟩
  · rintro i v s0 Q' E2 hi hv ⟨g, L, es, ep, t, x, g1, g2, g3⟩ q'
    obtain ⟨p, hp, rfl⟩ : ∃ p, ks[i]? = some p ∧ v = .ref p.1 := by
      have q : items.toList[i]? = some v := by rw [Array.getElem?_toList]; exact hv
      rw [hit, List.getElem?_map] at q
      cases hq : ks[i]? with
      | none => rw [hq] at q; cases q
      | some p =>
        rw [hq] at q
        exact ⟨p, rfl, (Option.some.inj q).symm⟩
    have hpm : p ∈ ks := List.mem_of_getElem? hp
    have ht : ks.take (i + 1) = ks.take i ++ [p] := take_snoc hp
    have hx : IsM P w s0.heap p.2 p.1 := kept p hpm _ g
    have hu' : A'.in1.units < cLine := by
      show A'.units + 1 < cLine
      omega
    unfold setAdd
    refine wpAny_holding (wpAny_bind (wpAny_pyHash_tuple hu' hx ?_))
    refine m_add (s := { s0 with toks := s0.toks + (p.2.length + 1) }) x hx hu' (by omega) fun b h' L' es' ep' t' sb R c1 c2 => ?_
    have g' : ∀ b u, s.heap.get? b = some u → h'.get? b = some u := fun b u e => (sb.2 b (lt b u e).1).trans (g b u e)
    refine q' b h' _ (Nat.le_add_right _ _) sb ⟨g', L', es', ep', t', R, ?_⟩
    rw [ht]
    by_cases c : p.2 ∈ L.map (·.2)
    · rw [c1 c]
      refine ⟨fun y hy => List.mem_append_left _ (g1 y hy), fun y hy => ?_, by omega⟩
      rcases List.mem_append.mp hy with h | h
      · exact g2 y h
      · rw [List.mem_singleton.mp h]
        exact c
    · have pm := c2 c
      refine ⟨fun y hy => ?_, fun y hy => ?_, by rw [pm.length_eq, List.length_cons]; omega⟩
      · rcases List.mem_cons.mp (pm.mem_iff.mp hy) with h | h
        · rw [h]
          exact List.mem_append_right _ List.mem_cons_self
        · exact List.mem_append_left _ (g1 y h)
      · rw [(pm.map (·.2)).mem_iff, List.map_cons]
        rcases List.mem_append.mp hy with h | h
        · exact List.mem_cons_of_mem _ (g2 y h)
        · rw [List.mem_singleton.mp h]
          exact List.mem_cons_self
  · rintro s' mv ⟨g, L, es, ep, t, x, g1, g2, g3⟩
    obtain ⟨h', g', d', tk', os'⟩ := s'
    obtain rfl : g' = s.gens := mv.gens
    obtain rfl : d' = s.drawn := mv.drawn
    obtain rfl : os' = s.os := mv.os
    have et : ks.take items.size = ks := List.take_of_length_le (by omega)
    rw [et] at g1 g2
    refine wpAny_pure ?_
    exact q h' tk' L x.raw ⟨g1, g2, x.nd⟩ g
end
section
variable {X : Cx}
def keysIn (H : Hp) (ks : List MRow) : Prop := ∀ p ∈ ks, H p.1 = some (.tup (p.2.map kV))
theorem isM_of {pins : List (Addr × Obj)} {σ : L2.St} {H : Hp} {s : Shared} (I : Inv X pins σ H s) {p : MRow} (h : H p.1 = some (.tup (p.2.map kV))) : IsM X.prog X.w s.heap p.2 p.1 := by
  obtain ⟨_, its, rv, o, ho, hc, n, hd⟩ := (show ObjOk X.prog X.w H s.heap p.1 (.tup (p.2.map kV)) from I.hok _ _ h)
  exact ⟨o, its.toArray, n, ho, hc, hd, by rw [List.toList_toArray]; exact items_of p.2 its rv⟩
/-- set(xs) -/
def rSetM (K : PySem.W.Frag) (P : Program) (w : World) : List V → Hp → VK → Prop := fun xs H Q => ∃ l ks, xs = [.ref l] ∧ SqL K H l (ks.map fun p => V.ref p.1) ∧ keysIn H ks ∧ ks.length < 64 ∧ ∀ p L, H p = none → Each1 ks L → L.length < 64 → Q (.ref p) (upd H p (MsO P w p L))
theorem refs_of : ∀ {ks : List MRow} {us : List Value}, Vals (ks.map fun p => V.ref p.1) us → us = ks.map fun p => Value.ref p.1
  | [], _, .nil => rfl
  | p :: ks, _, .cons r t => by
    cases r
    rw [refs_of t]
    rfl
theorem cr_setM (hc : X.calm = true) (hu : X.A.units + 16 < cLine) : CallR X (.type "set") (rSetM X.K X.prog X.w) := by
  intro pins s σ H xs us Q I r h
  obtain ⟨l, ks, rfl, hs, hk, few, q⟩ := h
  rw [Vals.ref1 r]
  obtain ⟨its, rv, pl, hz⟩ := I.list hs
  refine m_fill ks (I.ok.hd hc) pl.isList (by simpa using refs_of rv) (fun p hp => isM_of I (hk p hp)) few hu fun h' tk L x e k => ?_
  exact ⟨.ref s.heap.objs.size, _, I.laid (t' := tk) k (Nat.le_refl _) (msO_new x), rfl, q _ L (I.hok.fresh (Nat.le_refl _)) e x.few⟩
/-- sorted(the set) -/
def rSortM (P : Program) (w : World) : List V → Hp → VK → Prop := fun xs H Q => ∃ a L, xs = [.ref a] ∧ H a = some (MsO P w a L) ∧ keysIn H L ∧ PySem.W.AllAlike (L.map fun p => encT p.2) ∧ (∀ p ∈ L, p.2 ≠ []) ∧
  ∀ (ys : List MRow) p, ys.Perm L → ys.Pairwise (fun x y => PySem.W.dataLt (encT y.2) (encT x.2) = false) → H p = none → Q (.ref p) (upd H p (.lst (ys.map fun y => V.ref y.1)))
theorem each_rows : ∀ {L : List MRow}, PySem.W.EachIs (fun v (y : MRow) => v = Value.ref y.1) (L.map fun y => Value.ref y.1) L
  | [] => .nil
  | y :: L => .cons rfl each_rows
theorem rows_each : ∀ {us : List Value} {ys : List MRow}, PySem.W.EachIs (fun v (y : MRow) => v = Value.ref y.1) us ys → Vals (ys.map fun y => V.ref y.1) us
  | _, _, .nil => .nil
  | _, _, .cons h t => by
    subst h
    exact .cons rfl (rows_each t)
theorem cr_sortedM (hc : X.calm = true) (hu : X.A.units + 64 < cLine) : CallR X (.builtin "sorted") (rSortM X.prog X.w) := by
  intro pins s σ H xs us Q I r h
  obtain ⟨a, L, rfl, ha, hk, hal, hne, q⟩ := h
  rw [Vals.ref1 r]
  obtain ⟨⟨o, es, ep, t, ho, hx, hd, hrows, hfit, hris, hled⟩, few, nd⟩ := (show ObjOk X.prog X.w H s.heap a (MsO X.prog X.w a L) from I.hok _ _ ha).1
  have n1 := rows_len hrows
  have hm : ∀ p ∈ L, IsM X.prog X.w s.heap p.2 p.1 := fun p hp => isM_of I (hk p hp)
  refine Calls.call_function_entry kind_sorted plain_sorted entry_sorted (args_sorted1 _) ?_
  unfold Builtin.«sorted»
  refine wpAny_bind (m := checkCount "sorted" 1 1 _) (wpAny_pure ?_)
  refine wpAny_bind (collect_set (A := X.A.in1) (I.ok.hd hc) ⟨o, ho, hx.1, hd⟩ hfit (by rw [n1]; unfold scanBound; omega) hris hled fun s1 vs up sz g1 o1 pm => ?_)
  have hes : es.toList.map (·.2) = L.map fun y => Value.ref y.1 := by
    rw [hrows]
    unfold rowsM
    rw [List.map_map]
    rfl
  rw [hes] at pm
  -- the rows in the sequence in which they come
  let back : Value → MRow := fun v => (L.find? fun y => Value.ref y.1 == v).getD (0, [])
  have hb : ∀ y ∈ L, back (Value.ref y.1) = y := fun y hy => by
    show (L.find? fun z => Value.ref z.1 == Value.ref y.1).getD (0, []) = y
    cases e : L.find? fun z => Value.ref z.1 == Value.ref y.1 with
    | none =>
      have := List.find?_eq_none.mp e y hy
      simp at this
    | some z =>
      have h1 := List.mem_of_find?_eq_some e
      have h2 := List.find?_some e
      have h3 : z.1 = y.1 := by
        have h2' := beq_iff_eq.mp h2
        injection h2'
      have z1 := hm z h1
      have y1 := hm y hy
      rw [h3] at z1
      exact Prod.ext h3 (z1.inj y1)
  have hv : ∀ v ∈ vs, ∃ y ∈ L, v = Value.ref y.1 := fun v hv => by
    obtain ⟨y, hy, e⟩ := List.mem_map.mp (pm.mem_iff.mp hv)
    exact ⟨y, hy, e.symm⟩
  have e1 : vs = (vs.map back).map fun y => Value.ref y.1 := by
    rw [List.map_map]
    have : ∀ l : List Value, (∀ v ∈ l, ∃ y ∈ L, v = Value.ref y.1) → l = l.map ((fun y : MRow => Value.ref y.1) ∘ back) := by
      intro l
      induction l with
      | nil => intro _; rfl
      | cons v l ih =>
        intro h
        obtain ⟨y, hy, rfl⟩ := h v List.mem_cons_self
        rw [List.map_cons, ← ih fun u hu => h u (List.mem_cons_of_mem _ hu)]
        show _ = Value.ref (back (Value.ref y.1)).1 :: l
        rw [hb y hy]
    exact this vs hv
  have p1 : (vs.map back).Perm L := by
    have h := pm.map back
    rw [List.map_map] at h
    have e : L.map (back ∘ fun y : MRow => Value.ref y.1) = L := by
      have : ∀ l : List MRow, (∀ y ∈ l, y ∈ L) → l.map (back ∘ fun y : MRow => Value.ref y.1) = l := by
        intro l
        induction l with
        | nil => intro _; rfl
        | cons y l ih =>
          intro h
          rw [List.map_cons, ih fun u hu => h u (List.mem_cons_of_mem _ hu)]
          show back (Value.ref y.1) :: l = y :: l
          rw [hb y (h y List.mem_cons_self)]
      exact this L fun y hy => hy
    rw [e] at h
    exact h
  generalize vs.map back = L1 at e1 p1
  subst e1
  have nl : L1.length < 64 := by rw [p1.length_eq]; exact few
  have nv : (L1.map fun y => Value.ref y.1).length ≤ sizeLine := by rw [List.length_map, sizeLine_eq]; omega
  refine wpAny_bind (wpAny_newList ?_ nv)
  generalize hvs : L1.map (fun y => Value.ref y.1) = vs at pm hv nv ⊢
  have at1 : (s1.heap.push (seqObj "list" vs.toArray 0)).get? s1.heap.objs.size = some (seqObj "list" vs.toArray 0) := Heap.get?_push_size _ rfl
  have hE : PySem.W.EachIs (fun v (y : MRow) => v = Value.ref y.1) vs L1 := by rw [← hvs]; exact each_rows
  have kp : ∀ b u, s.heap.get? b = some u → (s1.heap.push (seqObj "list" vs.toArray 0)).get? b = some u := fun b u e => Heap.get?_push_of_some _ (up b u e)
  have hR : PySem.W.EachIs (fun v (y : MRow) => ∃ as, Reads (s1.heap.push (seqObj "list" vs.toArray 0)) v (encT y.2) as ∧ s1.heap.objs.size ∉ as) vs L1 := by
    refine (PySem.W.each_mem hE).mono fun v y ⟨e, hy⟩ => ⟨[], ?_, by simp⟩
    subst e
    exact PyProof.Rows.Reads.keeps kp (tup_reads (hm y (p1.mem_iff.mp hy)))
  refine wpAny_bind (wpAny_holding ?_)
  refine PySem.W.list_sort_data (s := { s1 with heap := s1.heap.push (seqObj "list" vs.toArray 0) }) (enc := fun y : MRow => encT y.2) (bs := L1) at1 hE hR (fun d hd d' hd' => ?_) (.inl fun dd hdd => ?_) (by rw [sizeLine_eq]; omega) (fun y _ => ?_) fun out hlen hout => ?_
  · exact hal d ((p1.map _).mem_iff.mp hd) d' ((p1.map _).mem_iff.mp hd')
  · obtain ⟨y, hy, rfl⟩ := List.mem_map.mp hdd
    cases e : y.2 with
    | nil => exact absurd e (hne y (p1.mem_iff.mp hy))
    | cons k r => exact ⟨encK k, r.map encK, rfl⟩
  · have hdep : (encT y.2).depth = 1 := by
      have z : ∀ l : List Key, PyData.depthAll (l.map encK) = 0 := by
        intro l
        induction l with
        | nil => rfl
        | cons k r ih =>
          show PyData.depthAll (encK k :: r.map encK) = 0
          rw [PyData.depthAll, ih]
          cases k <;> rfl
      show PyData.depth (.tuple (y.2.map encK)) = 1
      rw [PyData.depth, z]
    rw [hdep]
    show X.A.units + 1 + 1 + 1 < cLine
    omega
  · obtain ⟨c, at2⟩ := sortedHeap_at (vs := vs) (out := out.toArray) at1
    have hv2 := rows_each hout
    have pw := PySem.W.sort_pairwise (PySem.W.sortLe_total (listOrd itemOrd) false fun y : MRow => PySem.W.keyToks (encT y.2)) L1
    have p2 : (L1.mergeSort (PySem.W.dataLe false fun y : MRow => encT y.2)).Perm L := (List.mergeSort_perm L1 _).trans p1
    have pw2 : (L1.mergeSort (PySem.W.dataLe false fun y : MRow => encT y.2)).Pairwise (fun x y => PySem.W.dataLt (encT y.2) (encT x.2) = false) := by
      refine List.Pairwise.imp (fun {x y} hxy => ?_) pw
      have h2 : (!PySem.W.dataLt (encT y.2) (encT x.2)) = true := hxy
      simpa using h2
    generalize L1.mergeSort (PySem.W.dataLe false fun y : MRow => encT y.2) = ys at hv2 p2 pw2
    have ll : (ys.map fun y => V.ref y.1).length ≤ sizeLine := by
      rw [List.length_map, p2.length_eq, sizeLine_eq]
      omega
    have old : ∀ b u, s.heap.get? b = some u → (sortedHeap (s1.heap.push (seqObj "list" vs.toArray 0)) s1.heap.objs.size vs out.toArray).get? b = some u := fun b u e => by
      have h1 := up b u e
      have h2 := Heap.lt_size h1
      exact (sortedHeap_old (Nat.ne_of_lt h2) (by rw [size_push']; exact Nat.lt_succ_of_lt h2)).trans (Heap.get?_push_of_some _ h1)
    have fresh : H s1.heap.objs.size = none := I.hok.fresh sz
    have newO : ObjOk X.prog X.w (upd H s1.heap.objs.size (.lst (ys.map fun y => V.ref y.1))) (sortedHeap (s1.heap.push (seqObj "list" vs.toArray 0)) s1.heap.objs.size vs out.toArray) s1.heap.objs.size (.lst (ys.map fun y => V.ref y.1)) := ⟨ll, _, c, hv2, at2⟩
    refine wpAny_pure ⟨_, rfl, .ref s1.heap.objs.size, upd H s1.heap.objs.size (.lst (ys.map fun y => V.ref y.1)), ?_, rfl, q ys _ p2 pw2 fresh⟩
    refine I.call' (ch := []) o1 (Un.laid old sz fresh) (I.hok.laid old sz newO) ?_ (fun _ z => nomatch z)
    show AllBare s1.gens
    rw [g1]
    exact I.bare
end
end SWL
set_option Elab.async false
set_option linter.all false
set_option maxRecDepth 100000
set_option maxHeartbeats 4000000
namespace SWL
open PySem PySem.Spec PyProof.Rows L2 LamX
/-! enumerate(text); dicts of nested keys: in, [], []= -/
def IteS (z : Str) : It :=
  ⟨fun i H => ∃ c, z.cps.toList[i]? = some c, fun i H v H' => ∃ T c, v = .ref T ∧ H T = none ∧ H' = upd H T (.tup [.int (i : Nat), .str ⟨#[c]⟩]) ∧ z.cps.toList[i]? = some c, fun i H => z.cps.toList.length = i⟩
theorem turn_enumS {P : Program} {w : World} {K : PySem.W.Frag} {elts : List Expr} {kk : Nat} {tpos : Pos} (z : Str) (tk0 : Tok) (e it : Addr) :
    Turn P w K (.Tuple elts kk tpos) (IteS z) [e, it] e (fun i h => (∃ old, IsEnum h e it (0 + ((i : Nat) : Int)) old) ∧ h.IsStrIter it (strIterType z) z tk0 i ∧ e ≠ it) where
  mem := by simp
  obj := fun i h st b hb => by
    obtain ⟨⟨old, he⟩, ⟨o, ho, hc, hd⟩, _⟩ := st
    rcases (by simpa using hb : b = e ∨ b = it) with z | z
    · exact ⟨_, by rw [z]; exact he, fun v q => by cases q⟩
    · exact ⟨o, by rw [z]; exact ho, fun v q => by rw [hd] at q; cases q⟩
  keep := fun i h h' st k => let ⟨⟨old, he⟩, ⟨o, ho, r⟩, hne⟩ := st; ⟨⟨old, k e (by simp) _ he⟩, ⟨o, k it (by simp) o ho, r⟩, hne⟩
  item := by
    intro X hP hw hK hc i pins s σ H E I hf st hg
    subst hP hw hK
    have hh : X.A.handled = none := I.ok.hd hc
    obtain ⟨c, hx⟩ := hg
    obtain ⟨he, hit, hne⟩ := st
    have G := GoesN.enumFrom (elts := elts) (x1 := kk) (pos := tpos) 0 (Draws.text (prog := X.prog) (w := X.w) (A := X.A.in1) hh it z tk0) e hne (by simp [hne]) (by simp)
    have hlt : i < z.cps.size := by
      have := (List.getElem?_eq_some_iff.mp hx).1
      simpa using this
    refine G.goes i s _ E hlt ⟨he, hit⟩ fun v h' tk hY st' hk _ => ?_
    obtain ⟨T, t, u, rfl, hT, ⟨c', u', hc', rfl⟩, hTup⟩ := hY
    have hcc : c' = c := by
      rw [← Array.getElem?_toList, hx] at hc'
      exact (Option.some.inj hc').symm
    subst hcc
    have fr : H T = none := I.hok.fresh hT
    refine ⟨.ref T, upd H T (.tup [.int (i : Nat), .str ⟨#[c']⟩]), I.turnedNew (t' := tk) (ch := [e, it]) hk hf hT ?_, rfl, ⟨T, c', rfl, fr, rfl, hx⟩, ⟨st'.1, st'.2, hne⟩, fun b hb => ?_⟩
    · refine ⟨by show 2 ≤ sizeLine; decide, _, .cons ⟨t, ?_⟩ (.cons ⟨u', rfl⟩ .nil), hTup⟩
      rw [Int.zero_add]
    · have hlt2 : b < s.heap.objs.size := by
        obtain ⟨old, he⟩ := he
        obtain ⟨o, ho, _⟩ := hit
        rcases (by simpa using hb : b = e ∨ b = it) with z | z
        · rw [z]; exact Heap.lt_size he
        · rw [z]; exact Heap.lt_size ho
      rw [upd_ne (Nat.ne_of_lt (Nat.lt_of_lt_of_le hlt2 hT))]
      exact (hf b hb).1
  done := by
    intro X hP hw hK hc i pins s σ H E I hf st hg
    subst hP hw hK
    have hh : X.A.handled = none := I.ok.hd hc
    obtain ⟨he, hit, hne⟩ := st
    have G := GoesN.enumFrom (elts := elts) (x1 := kk) (pos := tpos) 0 (Draws.text (prog := X.prog) (w := X.w) (A := X.A.in1) hh it z tk0) e hne (by simp [hne]) (by simp)
    have hi : i = z.cps.size := by
      have : z.cps.toList.length = i := hg
      simpa using this.symm
    rw [hi] at he hit
    exact G.stops s _ E ⟨he, hit⟩ fun h' tk hk _ => I.turnedL (t' := tk) (ch := [e, it]) hk hf
  self := fun A i s Q E st h => let ⟨⟨_, he⟩, _⟩ := st; wpAny_pyIter_enum he h
def iEnumS (ta : TA) : TI := fun σ H R => ta σ H fun vs H1 => ∃ z, vs = [.str z] ∧ R (IteS z) H1
theorem pi_enumS {X : Cx} {e : Expr} {ta : TA} {p pos tpos : Pos} {elts : List Expr} {kk : Nat} (hg : Gl X "enumerate") (hm : X.mg "enumerate" = none) (ha : PA X [e] ta) (hs : starEach [e] X.env = [(false, eval e X.env)] := by rfl) :
    PI X (.Tuple elts kk tpos) (.Call (.Name "enumerate" p) [e] [] pos) (iEnumS ta) := by
  refine ⟨fun pins s σ H R I h => ?_⟩
  refine Call_ (ld_blt I hg hm boot_enumerate (PyProof.Rows.callWith_type1 (thn (ha.run pos pins s σ H _ I h) fun us s1 ⟨vs, H1, I1, r1, q1⟩ => ?_) hs rfl))
  obtain ⟨z, rfl, q⟩ := q1
  obtain ⟨u, rfl, ru⟩ := vals1 r1
  obtain ⟨tk0, rfl⟩ := ru
  refine call_enum1 (begins_text z tk0) trivial fun h' he hit hk => wpAny_pyIter_enum he ?_
  have I2 : Inv X pins σ H1 { s1 with heap := h' } := I1.kept (t' := s1.toks) hk
  refine ⟨s1.heap.objs.size + 1, [s1.heap.objs.size + 1, s1.heap.objs.size], _, _, H1, rfl, I2, turn_enumS z tk0 (s1.heap.objs.size + 1) s1.heap.objs.size, ⟨⟨.none, by rw [Int.zero_add]; exact he⟩, ⟨_, hit, rfl, rfl⟩, Nat.succ_ne_self _⟩, fun b hb => ?_, q⟩
  have hle : s1.heap.objs.size ≤ b := by
    rcases (by simpa using hb : b = s1.heap.objs.size + 1 ∨ b = s1.heap.objs.size) with z | z <;> rw [z] <;> first | exact Nat.le_add_right _ _ | exact Nat.le_refl _
  exact I1.fpOk hle (I1.hok.fresh hle)
theorem walk_enumS {z : Str} : Walk (IteS z) z.cps.toList.length (fun _ => True) (YPair (fun i => some (.int (i : Nat))) (fun i => z.cps.toList[i]?.map fun c => .str ⟨#[c]⟩)) := by
  refine ⟨fun i _ hi _ => ⟨z.cps.toList[i], by simp [hi]⟩, fun _ _ => rfl, fun i H v H' _ _ y => ?_⟩
  obtain ⟨T, c, h1, h2, h3, h4⟩ := y
  exact ⟨T, .int (i : Nat), .str ⟨#[c]⟩, h1, h2, h3, rfl, by show z.cps.toList[i]?.map _ = _; rw [h4]; rfl⟩
/-- y in d, y not in d, d[y], d[y] = v: d a dict of nested keys -/
def tNNotIn (P : Program) (w : World) (ty td : TE) : TE := fun σ H Q => ty σ H fun y H1 => td σ H1 fun x H2 => ∃ a b rows k, x = .ref a ∧ y = .ref b ∧ H2 a = some (NDO P w a rows) ∧ KeysAt H2 rows ∧ NkAt H2 (.ref b) k ∧ k.depth ≤ 8 ∧ Q (.bl (!(valN rows k).isSome)) H2
def tNGet (P : Program) (w : World) (td ty : TE) : TE := fun σ H Q => td σ H fun x H1 => ty σ H1 fun y H2 => ∃ a b rows k v, x = .ref a ∧ y = .ref b ∧ H2 a = some (NDO P w a rows) ∧ KeysAt H2 rows ∧ NkAt H2 (.ref b) k ∧ k.depth ≤ 8 ∧ valN rows k = some v ∧ Q v H2
def sNPut (P : Program) (w : World) (td ty tv : TE) : TS := fun D σ H => tv σ H fun v H1 => td σ H1 fun x H2 => ty σ H2 fun y H3 => ∃ a b rows k, x = .ref a ∧ y = .ref b ∧ H3 a = some (NDO P w a rows) ∧ KeysAt H3 rows ∧ NkAt H3 (.ref b) k ∧ k.depth ≤ 8 ∧
  rows.length < sizeLine ∧ valN rows k = none ∧ D.nx σ (upd H3 a (NDO P w a (rows ++ [(k, b, v)])))
section
variable {X : Cx} {o i value : Expr} {pos pos' : Pos} {td ty tv : TE}
theorem nroom {A : Around} (hu : A.units + 16 < cLine) : (nestedKind X.prog X.w).room A.in1 := by
  show A.units + 1 + 8 < cLine
  omega
theorem pc_nnotin (hu : X.A.units + 16 < cLine) (hi : PE X i ty) (ho : PE X o td) : PC X .NotIn i o (tNNotIn X.prog X.w ty td) := by
  refine ⟨fun pins s σ H Q I h => ?_⟩
  refine thn (hi.run pins s σ H _ I h) fun iv s1 ⟨y, H1, I1, ry, q1⟩ => thn (ho.run pins s1 σ H1 _ I1 q1) fun u s2 ⟨x, H2, I2, rx, a, b, rows, k, ex, ey, ha, ks, nk, dep, q2⟩ => ?_
  subst ex ey
  cases rx
  cases ry
  obtain ⟨lo, zl, xs, rel, dd⟩ := nd_dict I2 ha ks
  refine wpAny_notIn_heap (knd := nestedKind X.prog X.w) (nroom hu) ⟨nk_is I2 k nk rfl, dep⟩ lo dd ?_
  rcases val_at (k := k) rel with ⟨h1, h2⟩ | ⟨v, p', h1, h2, h3⟩
  · rw [h2]
    rw [h1] at q2
    exact ⟨.bl true, H2, I2.tok _, rfl, q2⟩
  · rw [h2]
    rw [h1] at q2
    exact ⟨.bl false, H2, I2.tok _, rfl, q2⟩
theorem pe_nget (hu : X.A.units + 16 < cLine) (ho : PE X o td) (hi : PE X i ty) (hs : NoSl i) : PE X (.Subscript o i pos) (tNGet X.prog X.w td ty) := by
  refine ⟨fun pins s σ H Q I h => ?_⟩
  refine subD_of PySem.F.slot_dict_getitem.lookup hs (thn (ho.run pins s σ H _ I h) fun u s1 ⟨x, H1, I1, rx, q1⟩ => thn (hi.run pins s1 σ H1 _ I1 q1) fun iv s2 ⟨y, H2, I2, ry, a, b, rows, k, v, ex, ey, ha, ks, nk, dep, hv, q2⟩ => ?_)
  subst ex ey
  cases rx
  cases ry
  obtain ⟨lo, zl, xs, rel, dd⟩ := nd_dict I2 ha ks
  refine ⟨dd.typeIs, ?_⟩
  rcases val_at (k := k) rel with ⟨h1, _⟩ | ⟨v', p', h1, h2, h3⟩
  · rw [hv] at h1
    cases h1
  · rw [hv] at h1
    cases h1
    exact wpAny_getItem_heap (knd := nestedKind X.prog X.w) (nroom hu) ⟨nk_is I2 k nk rfl, dep⟩ dd h2 ⟨v, H2, I2.tok _, h3, q2⟩
theorem ps_nput (hu : X.A.units + 16 < cLine) (ho : PE X o td) (hi : PE X i ty) (hv : PE X value tv) (hs : swapsWith value (some (.Subscript o i pos')) pos.line X.env = pure false) :
    PS X (.Assign [.Subscript o i pos'] value pos) (sNPut X.prog X.w td ty tv) := by
  refine ⟨fun pins s σ H D I h => ?_⟩
  refine wpAny_Assign_Subscript (thn (hv.run pins s σ H _ I h) fun r s1 ⟨v, H1, I1, rv, q1⟩ => thn (ho.run pins s1 σ H1 _ I1 q1) fun u s2 ⟨x, H2, I2, rx, q2⟩ => thn (hi.run pins s2 σ H2 _ I2 q2) fun iv s3 ⟨y, H3, I3, ry, a, b, rows, k, ex, ey, ha, ks, nk, dep, few, hn, q3⟩ => ?_) hs
  subst ex ey
  cases rx
  cases ry
  obtain ⟨lo, zl, xs, rel, dd⟩ := nd_dict I3 ha ks
  have hl := paired_len rel
  refine wpAny_setItem_heap (knd := nestedKind X.prog X.w) (hsz := by rw [← hl]; exact zl) (nroom hu) ⟨nk_is I3 k nk rfl, dep⟩ dd fun h' dd' sb => ?_
  rcases val_at (k := k) rel with ⟨_, h2⟩ | ⟨v', p', h1, _, _⟩
  · rw [storedH_new h2] at dd'
    obtain ⟨o', es, ep, e1, e2, e3, e4, _, e5⟩ := dd'
    have new : NdAt X.prog X.w a (rows ++ [(k, b, v)]) h' := ⟨lo, by rw [List.length_append]; exact few, xs ++ [(k, b, r)], paired_snoc rel ⟨rfl, rfl, rv⟩, o', es, ep, e1, e2, e3, e4, e5⟩
    exact ⟨σ, _, I3.write (e := a) (by rw [ha]; exact True.intro) (.inl rfl) (fun c u hc hu => (sb.2 c hc).trans hu) ⟨o', e1⟩ (nd_new new), q3⟩
  · rw [hn] at h1
    cases h1
end
end SWL
set_option Elab.async false
set_option linter.all false
set_option maxRecDepth 100000
set_option maxHeartbeats 4000000
namespace SWL
open PySem PySem.Spec PyProof.Rows L2 LamX
/-! nested keys as data; d[k] = v where the key may be there; sorted(a dict of nested keys) -/
section
variable {K : PySem.W.Frag} {H : Hp}
mutual
theorem nk_dp : ∀ (k : NestedKey) {x : V}, NkAt H x k → Dp K H x k.data
  | _, _, .int i => .int i
  | _, _, .str z => .str z
  | .tup ks, _, .tup h t => .tup (.inl (.inl h)) (nk_dpAll ks t)
theorem nk_dpAll : ∀ (ks : List NestedKey) {xs : List V}, NkAll H xs ks → DpAll K H xs (NestedKey.datas ks)
  | _, _, .nil => .nil
  | k :: ks, _, .cons h t => .cons (nk_dp k h) (nk_dpAll ks t)
end
end
mutual
theorem data_depth : ∀ k : NestedKey, k.data.depth = k.depth
  | .none => rfl
  | .num _ => rfl
  | .text _ => rfl
  | .tup ks => by
    show PyData.depth (.tuple (NestedKey.datas ks)) = NestedKey.depthAll ks + 1
    rw [PyData.depth, datas_depth ks]
theorem datas_depth : ∀ ks : List NestedKey, PyData.depthAll (NestedKey.datas ks) = NestedKey.depthAll ks
  | [] => rfl
  | k :: ks => by
    show PyData.depthAll (k.data :: NestedKey.datas ks) = max k.depth (NestedKey.depthAll ks)
    rw [PyData.depthAll, data_depth k, datas_depth ks]
end
mutual
theorem eqv_data : ∀ a b : NestedKey, PyData.eqv a.data b.data = NestedKey.beq a b
  | .none, b => by cases b <;> simp [NestedKey.data, NestedKey.beq, PyData.eqv]
  | .num _, b => by cases b <;> simp [NestedKey.data, NestedKey.beq, PyData.eqv, Bool.beq_eq_decide_eq]
  | .text _, b => by cases b <;> simp [NestedKey.data, NestedKey.beq, PyData.eqv, Bool.beq_eq_decide_eq]
  | .tup as, .tup bs => by
    show PyData.eqv (.tuple (NestedKey.datas as)) (.tuple (NestedKey.datas bs)) = NestedKey.beqAll as bs
    rw [PyData.eqv, eqv_datas as bs]
  | .tup as, .none => by simp [NestedKey.data, NestedKey.beq, PyData.eqv]
  | .tup as, .num _ => by simp [NestedKey.data, NestedKey.beq, PyData.eqv]
  | .tup as, .text _ => by simp [NestedKey.data, NestedKey.beq, PyData.eqv]
theorem eqv_datas : ∀ as bs : List NestedKey, PyData.eqvAll (NestedKey.datas as) (NestedKey.datas bs) = NestedKey.beqAll as bs
  | [], [] => by simp [NestedKey.datas, NestedKey.beqAll, PyData.eqvAll]
  | [], _ :: _ => by simp [NestedKey.datas, NestedKey.beqAll, PyData.eqvAll]
  | _ :: _, [] => by simp [NestedKey.datas, NestedKey.beqAll, PyData.eqvAll]
  | a :: as, b :: bs => by
    show PyData.eqvAll (a.data :: NestedKey.datas as) (b.data :: NestedKey.datas bs) = (NestedKey.beq a b && NestedKey.beqAll as bs)
    rw [PyData.eqvAll, eqv_data a b, eqv_datas as bs]
end
theorem eqv_decide (a b : NestedKey) : PyData.eqv a.data b.data = decide (a = b) := by rw [eqv_data, NestedKey.decide_eq]
/-- the order of nested keys that are alike -/
def ltN (x y : NestedKey) : Prop := PySem.W.dataLt x.data y.data = true
theorem ltN_asym (a b : NestedKey) (h : ltN a b) : ¬ ltN b a := fun k => by
  have h1 : (listOrd itemOrd).blt (PySem.W.keyToks a.data) (PySem.W.keyToks b.data) = true := h
  have h2 : (listOrd itemOrd).blt (PySem.W.keyToks b.data) (PySem.W.keyToks a.data) = true := k
  have := (listOrd itemOrd).trans _ _ _ h1 h2
  rw [(listOrd itemOrd).irrefl] at this
  cases this
theorem ltN_tri {a b : NestedKey} (al : PySem.W.alike a.data b.data = true) (h : PySem.W.dataLt b.data a.data = false) (ne : a ≠ b) : ltN a b := by
  unfold ltN
  cases e : PySem.W.dataLt a.data b.data with
  | true => rfl
  | false =>
    have t : PySem.W.keyToks a.data = PySem.W.keyToks b.data := (listOrd itemOrd).total _ _ e h
    have ev : PyData.eqv a.data b.data = false := by rw [eqv_decide]; exact decide_eq_false ne
    have q := (PySem.W.toks_eqv a.data b.data al).2 ev [] [.inl 0]
    rw [t, PySem.W.lex_pre] at q
    have ir : PyProof.Rows.lexLt itemOrd (PySem.W.keyToks b.data) (PySem.W.keyToks b.data) = false := (listOrd itemOrd).irrefl _
    rw [ir] at q
    cases q
theorem pw_ltN : ∀ {ys : List NestedKey}, (∀ x ∈ ys, ∀ y ∈ ys, PySem.W.alike x.data y.data = true) → ys.Pairwise (fun x y => PySem.W.dataLt y.data x.data = false) → ys.Nodup → ys.Pairwise ltN
  | [], _, _, _ => .nil
  | y :: ys, al, pw, nd => by
    obtain ⟨n1, n2⟩ := List.nodup_cons.mp nd
    obtain ⟨p1, p2⟩ := List.pairwise_cons.mp pw
    refine List.pairwise_cons.mpr ⟨fun z hz => ltN_tri (al _ List.mem_cons_self _ (List.mem_cons_of_mem _ hz)) (p1 z hz) fun e => n1 (e ▸ hz), pw_ltN (fun x hx z hz => al x (List.mem_cons_of_mem _ hx) z (List.mem_cons_of_mem _ hz)) p2 n2⟩
def sortN (ks : List NestedKey) : List NestedKey := ks.mergeSort (PySem.W.dataLe false NestedKey.data)
theorem sortN_mem {ks : List NestedKey} {x : NestedKey} : x ∈ sortN ks ↔ x ∈ ks := (List.mergeSort_perm _ _).mem_iff
theorem sortN_rise {ks : List NestedKey} (al : ∀ x ∈ ks, ∀ y ∈ ks, PySem.W.alike x.data y.data = true) (nd : ks.Nodup) : (sortN ks).Pairwise ltN := by
  refine pw_ltN (fun x hx y hy => al x (sortN_mem.mp hx) y (sortN_mem.mp hy)) ?_ ((List.mergeSort_perm _ _).nodup_iff.mpr nd)
  refine List.Pairwise.imp (fun {x y} hxy => ?_) (PySem.W.sort_pairwise (PySem.W.sortLe_total (listOrd itemOrd) false fun y : NestedKey => PySem.W.keyToks y.data) ks)
  have h2 : (!PySem.W.dataLt y.data x.data) = true := hxy
  simpa using h2
/-- keys, each once, as they first come -/
def oneN (acc : List NestedKey) (k : NestedKey) : List NestedKey := if k ∈ acc then acc else acc ++ [k]
def firstsN (ks : List NestedKey) : List NestedKey := ks.foldl oneN []
theorem firstsN_snoc (ks : List NestedKey) (k : NestedKey) : firstsN (ks ++ [k]) = oneN (firstsN ks) k := by
  unfold firstsN
  rw [List.foldl_append]
  rfl
theorem oneN_mem {acc : List NestedKey} {k x : NestedKey} : x ∈ oneN acc k ↔ x ∈ acc ∨ x = k := by
  unfold oneN
  split
  · constructor
    · exact .inl
    · rintro (h | rfl)
      · exact h
      · assumption
  · simp
theorem oneN_nd {acc : List NestedKey} {k : NestedKey} (h : acc.Nodup) : (oneN acc k).Nodup := by
  unfold oneN
  split
  · exact h
  · refine List.nodup_append.mpr ⟨h, by simp, fun a ha b hb e => ?_⟩
    rw [List.mem_singleton.mp hb] at e
    rw [e] at ha
    contradiction
theorem firstsN_mem (ks : List NestedKey) {x : NestedKey} : x ∈ firstsN ks ↔ x ∈ ks := by
  have gen : ∀ (ks acc : List NestedKey), x ∈ ks.foldl oneN acc ↔ x ∈ acc ∨ x ∈ ks := by
    intro ks
    induction ks with
    | nil => intro acc; simp
    | cons k ks ih =>
      intro acc
      rw [List.foldl_cons, ih, oneN_mem, List.mem_cons, or_assoc]
  unfold firstsN
  rw [gen]
  simp
theorem firstsN_nd (ks : List NestedKey) : (firstsN ks).Nodup := by
  have gen : ∀ (ks acc : List NestedKey), acc.Nodup → (ks.foldl oneN acc).Nodup := by
    intro ks
    induction ks with
    | nil => intro acc h; exact h
    | cons k ks ih => intro acc h; exact ih _ (oneN_nd h)
  exact gen ks [] .nil
theorem firstsN_len (ks : List NestedKey) : (firstsN ks).length ≤ ks.length := by
  have gen : ∀ (ks acc : List NestedKey), (ks.foldl oneN acc).length ≤ acc.length + ks.length := by
    intro ks
    induction ks with
    | nil => intro acc; exact Nat.le_refl _
    | cons k ks ih =>
      intro acc
      have h1 := ih (oneN acc k)
      have h2 : (oneN acc k).length ≤ acc.length + 1 := by
        unfold oneN
        split
        · omega
        · rw [List.length_append]
          exact Nat.le_refl _
      rw [List.foldl_cons, List.length_cons]
      omega
  have := gen ks []
  unfold firstsN
  simpa using this
/-- the rows of a dict, k's value set -/
def putN (rows : List NRow) (k : NestedKey) (b : Addr) (v : V) : List NRow := if (valN rows k).isSome = true then rows.map fun r => if r.1 = k then (r.1, r.2.1, v) else r else rows ++ [(k, b, v)]
theorem valN_isSome (k : NestedKey) : ∀ rows : List NRow, ((valN rows k).isSome = true) ↔ k ∈ rows.map (·.1)
  | [] => by simp [valN]
  | r :: rows => by
    have ih := valN_isSome k rows
    unfold valN at ih ⊢
    by_cases c : r.1 = k
    · rw [List.find?_cons_of_pos (by exact decide_eq_true c)]
      simp [c]
    · rw [List.find?_cons_of_neg (by simpa using c), ih, List.map_cons, List.mem_cons]
      constructor
      · exact .inr
      · rintro (h | h)
        · exact absurd h.symm c
        · exact h
theorem putN_keys (rows : List NRow) (k : NestedKey) (b : Addr) (v : V) : (putN rows k b v).map (·.1) = oneN (rows.map (·.1)) k := by
  unfold putN oneN
  by_cases c : (valN rows k).isSome = true
  · rw [if_pos c, if_pos ((valN_isSome k rows).mp c), List.map_map]
    refine List.map_congr_left fun r _ => ?_
    simp only [Function.comp]
    split <;> rfl
  · rw [if_neg c, if_neg (fun h => c ((valN_isSome k rows).mpr h)), List.map_append]
    rfl
theorem putN_len (rows : List NRow) (k : NestedKey) (b : Addr) (v : V) : (putN rows k b v).length ≤ rows.length + 1 := by
  unfold putN
  split
  · rw [List.length_map]; omega
  · rw [List.length_append]; exact Nat.le_refl _
theorem putN_keysAt {H : Hp} {rows : List NRow} {k : NestedKey} {b : Addr} {v : V} (h : KeysAt H rows) (hk : NkAt H (.ref b) k) (hd : k.depth ≤ 8) : KeysAt H (putN rows k b v) := by
  intro r hr
  unfold putN at hr
  split at hr
  · obtain ⟨r0, h0, rfl⟩ := List.mem_map.mp hr
    split <;> exact h r0 h0
  · rcases List.mem_append.mp hr with h1 | h1
    · exact h r h1
    · rw [List.mem_singleton.mp h1]
      exact ⟨hk, hd⟩
theorem paired_put {k : NestedKey} {v : V} {r : Value} (rv : RelV v r) : ∀ {rows : List NRow} {xs : List NRaw}, Paired RowIs rows xs → Paired RowIs (rows.map fun r => if r.1 = k then (r.1, r.2.1, v) else r) (xs.map (putAt k r))
  | _, _, .nil => .nil
  | p :: ps, q :: qs, .cons h t => by
    refine .cons ?_ (paired_put rv t)
    obtain ⟨h1, h2, h3⟩ := h
    unfold putAt
    dsimp only
    by_cases c : p.1 = k
    · rw [if_pos c, if_pos (h1.symm.trans c)]
      exact ⟨h1, h2, rv⟩
    · rw [if_neg c, if_neg (fun e => c (h1.trans e))]
      exact ⟨h1, h2, h3⟩
def sNSet (P : Program) (w : World) (td ty tv : TE) : TS := fun D σ H => tv σ H fun v H1 => td σ H1 fun x H2 => ty σ H2 fun y H3 => ∃ a b rows k, x = .ref a ∧ y = .ref b ∧ H3 a = some (NDO P w a rows) ∧ KeysAt H3 rows ∧ NkAt H3 (.ref b) k ∧ k.depth ≤ 8 ∧
  rows.length < sizeLine ∧ D.nx σ (upd H3 a (NDO P w a (putN rows k b v)))
def rSortN (P : Program) (w : World) : List V → Hp → VK → Prop := fun xs H Q => ∃ a rows, xs = [.ref a] ∧ H a = some (NDO P w a rows) ∧ KeysAt H rows ∧ (∀ x ∈ rows, ∀ y ∈ rows, PySem.W.alike x.1.data y.1.data = true) ∧ (∀ r ∈ rows, ∃ k ks, r.1 = .tup (k :: ks)) ∧
  ∀ (ys : List NRow) p, ys = rows.mergeSort (PySem.W.dataLe false fun r : NRow => r.1.data) → H p = none → Q (.ref p) (upd H p (.lst (ys.map fun r => V.ref r.2.1)))
theorem each_nrefs : ∀ {us : List Value} {ys : List NRow}, PySem.W.EachIs (fun v (y : NRow) => v = Value.ref y.2.1) us ys → Vals (ys.map fun y => V.ref y.2.1) us
  | _, _, .nil => .nil
  | _, _, .cons h t => by
    subst h
    exact .cons rfl (each_nrefs t)
theorem paired_at {α β : Type} {R : α → β → Prop} : ∀ {l : List α} {m : List β}, Paired R l m → ∀ {i : Nat} {b : β}, m[i]? = some b → ∃ a, l[i]? = some a ∧ R a b
  | _, _, .nil, i, b, h => by simp at h
  | _, _, .cons r t, 0, b, h => ⟨_, rfl, by cases (Option.some.inj h); exact r⟩
  | _, _, .cons r t, i + 1, b, h => paired_at t (i := i) h
section
variable {X : Cx} {o i value : Expr} {pos pos' : Pos} {td ty tv : TE}
mutual
theorem nk_reads {pins : List (Addr × Obj)} {σ : L2.St} {H : Hp} {s : Shared} (I : Inv X pins σ H s) : ∀ (k : NestedKey) {x : V} {u : Value}, NkAt H x k → RelV x u → Reads s.heap u k.data []
  | _, _, _, .int i, r => by obtain ⟨t, rfl⟩ := r; exact .int i t
  | _, _, _, .str z, r => by obtain ⟨t, rfl⟩ := r; exact .str z t
  | .tup ks, _, _, @NkAt.tup _ a xs _ h t, r => by
    cases r
    obtain ⟨_, its, rv, o, ho, hc, n, hd⟩ := (show ObjOk X.prog X.w H s.heap a (.tup xs) from I.hok _ _ h)
    exact .tuple ho hc hd (by rw [List.toList_toArray]; exact nk_readsAll I ks t rv)
theorem nk_readsAll {pins : List (Addr × Obj)} {σ : L2.St} {H : Hp} {s : Shared} (I : Inv X pins σ H s) : ∀ (ks : List NestedKey) {xs : List V} {us : List Value}, NkAll H xs ks → Vals xs us → ReadsAll s.heap us (NestedKey.datas ks) []
  | _, _, _, .nil, r => by cases r; exact .nil
  | k :: ks, _, _, .cons h t, r => by
    cases r with
    | cons r1 r2 => exact .cons (as := []) (bs := []) (nk_reads I k h r1) (nk_readsAll I ks t r2)
end
theorem ps_nset (hu : X.A.units + 16 < cLine) (ho : PE X o td) (hi : PE X i ty) (hv : PE X value tv) (hs : swapsWith value (some (.Subscript o i pos')) pos.line X.env = pure false) :
    PS X (.Assign [.Subscript o i pos'] value pos) (sNSet X.prog X.w td ty tv) := by
  refine ⟨fun pins s σ H D I h => ?_⟩
  refine wpAny_Assign_Subscript (thn (hv.run pins s σ H _ I h) fun r s1 ⟨v, H1, I1, rv, q1⟩ => thn (ho.run pins s1 σ H1 _ I1 q1) fun u s2 ⟨x, H2, I2, rx, q2⟩ => thn (hi.run pins s2 σ H2 _ I2 q2) fun iv s3 ⟨y, H3, I3, ry, a, b, rows, k, ex, ey, ha, ks, nk, dep, few, q3⟩ => ?_) hs
  subst ex ey
  cases rx
  cases ry
  obtain ⟨lo, zl, xs, rel, dd⟩ := nd_dict I3 ha ks
  have hl := paired_len rel
  refine wpAny_setItem_heap (knd := nestedKind X.prog X.w) (hsz := by rw [← hl]; exact zl) (nroom hu) ⟨nk_is I3 k nk rfl, dep⟩ dd fun h' dd' sb => ?_
  have pr : Paired RowIs (putN rows k b v) (storedH xs k b r) := by
    unfold putN
    rcases val_at (k := k) rel with ⟨h1, h2⟩ | ⟨v', p', h1, h2, _⟩
    · rw [if_neg (by rw [h1]; exact Bool.false_ne_true), storedH_new h2]
      exact paired_snoc rel ⟨rfl, rfl, rv⟩
    · rw [if_pos (by rw [h1]; rfl), storedH_old h2]
      exact paired_put rv rel
  obtain ⟨o', es, ep, e1, e2, e3, e4, _, e5⟩ := dd'
  have new : NdAt X.prog X.w a (putN rows k b v) h' := ⟨lo, by have := putN_len rows k b v; omega, storedH xs k b r, pr, o', es, ep, e1, e2, e3, e4, e5⟩
  exact ⟨σ, _, I3.write (e := a) (by rw [ha]; exact True.intro) (.inl rfl) (fun c u hc hu => (sb.2 c hc).trans hu) ⟨o', e1⟩ (nd_new new), q3⟩
theorem cr_sortedN (hc : X.calm = true) (hu : X.A.units + 64 < cLine) : CallR X (.builtin "sorted") (rSortN X.prog X.w) := by
  intro pins s σ H xs us Q I r h
  obtain ⟨d, rows, rfl, ha, ks, hal, hne, q⟩ := h
  rw [Vals.ref1 r]
  obtain ⟨lo, hz, xs, rel, hd⟩ := nd_dict I ha ks
  have hl := paired_len rel
  have hh := I.ok.hd hc
  obtain ⟨es, ep, hr, hsz, hent⟩ := hd.raw
  have e0 : es.size ≤ sizeLine := by rw [hsz, ← hl]; exact hz
  refine Calls.call_function_entry kind_sorted plain_sorted entry_sorted (args_sorted1 _) ?_
  unfold Builtin.«sorted»
  refine wpAny_bind (m := checkCount "sorted" 1 1 _) (wpAny_pure ?_)
  refine wpAny_bind (PySem.W.kdu_collect (A := X.A.in1) (KdlSrc.rawDict lo) hh hr e0 fun h' tk acc hk hacc => ?_)
  have hal2 : acc.size = rows.length := by rw [hacc.1, hsz, hl]
  have hE : PySem.W.EachIs (fun v (y : NRow) => v = Value.ref y.2.1) acc.toList rows := by
    refine PySem.W.EachIs.of_zip (by rw [Array.length_toList]; exact hal2) fun p hp => ?_
    obtain ⟨i, hi⟩ := List.getElem?_of_mem hp
    rw [List.getElem?_zip_eq_some] at hi
    obtain ⟨hi', e⟩ := hacc.2 i p.1 (by rw [← Array.getElem?_toList]; exact hi.1)
    obtain ⟨y, hy, e2, _, _⟩ := hent i hi'
    obtain ⟨a, ea, ra⟩ := paired_at rel hy
    rw [hi.2] at ea
    cases ea
    rw [ra.2.1]
    exact e.trans e2
  have I1 : Inv X pins σ H { s with heap := h', toks := tk } := I.kept hk
  have hzl : acc.toList.length ≤ sizeLine := by rw [Array.length_toList, hal2]; exact hz
  refine wpAny_bind (wpAny_newList ?_ hzl)
  have hoL : (h'.push (seqObj "list" acc.toList.toArray 0)).get? h'.objs.size = some (seqObj "list" acc.toList.toArray 0) := Heap.get?_push_size _ rfl
  have kp : ∀ b o, s.heap.get? b = some o → (h'.push (seqObj "list" acc.toList.toArray 0)).get? b = some o := fun b o e => Heap.get?_push_of_some _ (hk b o e)
  show wpAny _ _ _ _ _ { s with heap := h'.push (seqObj "list" acc.toList.toArray 0), toks := tk }
  have hR : PySem.W.EachIs (fun v (y : NRow) => ∃ as, Reads (h'.push (seqObj "list" acc.toList.toArray 0)) v y.1.data as ∧ h'.objs.size ∉ as) acc.toList rows := by
    refine (PySem.W.each_mem hE).mono fun v y ⟨e, hy⟩ => ⟨[], ?_, by simp⟩
    subst e
    exact PyProof.Rows.Reads.keeps kp (nk_reads I _ (ks y hy).1 rfl)
  refine wpAny_bind (wpAny_holding ?_)
  refine PySem.W.list_sort_data (s := { s with heap := h'.push (seqObj "list" acc.toList.toArray 0), toks := tk }) (enc := fun y : NRow => y.1.data) (bs := rows) hoL hE hR (fun dd hdd dd' hdd' => ?_) (.inl fun dd hdd => ?_) hz (fun y hy => ?_) fun out hlen ho => ?_
  · obtain ⟨x, hx, rfl⟩ := List.mem_map.mp hdd
    obtain ⟨y, hy, rfl⟩ := List.mem_map.mp hdd'
    exact hal x hx y hy
  · obtain ⟨y, hy, rfl⟩ := List.mem_map.mp hdd
    obtain ⟨k, kk, e⟩ := hne y hy
    exact ⟨k.data, NestedKey.datas kk, by show y.1.data = _; rw [e]; rfl⟩
  · rw [data_depth]
    have := (ks y hy).2
    show X.A.units + 1 + 1 + y.1.depth < cLine
    omega
  · obtain ⟨c, hc2⟩ := sortedHeap_at (vs := acc.toList) (out := out.toArray) hoL
    have hv := each_nrefs ho
    have hlen2 : ((rows.mergeSort (PySem.W.dataLe false fun y : NRow => y.1.data)).map fun y => V.ref y.2.1).length ≤ sizeLine := by
      rw [List.length_map, List.length_mergeSort]
      exact hz
    refine wpAny_pure ⟨_, rfl, .ref h'.objs.size, upd H h'.objs.size _, I1.laid (t' := tk) (fun b u e => ?_) (Nat.le_refl _) (show ObjOk X.prog X.w _ _ _ (.lst _) from ⟨hlen2, out, c, hv, hc2⟩), rfl, q _ _ rfl (I1.hok.fresh (Nat.le_refl _))⟩
    have hb : b < h'.objs.size := Heap.lt_size e
    exact (sortedHeap_old (Nat.ne_of_lt hb) (by rw [size_push']; exact Nat.lt_succ_of_lt hb)).trans (Heap.get?_push_of_some _ e)
end
end SWL
set_option Elab.async false
set_option linter.all false
set_option maxRecDepth 100000
set_option maxHeartbeats 4000000
namespace SWL
open PySem PySem.Spec PyProof.Rows L2 LamX
/-! one, *others = a tuple -/
def gStar (K : PySem.W.Frag) (t1 t2 : TG) : TG := fun v σ H Q => ∃ (a : Addr) (x : V) (xs : List V), v = .ref a ∧ SqT K H a (x :: xs) ∧ xs.length ≤ 10000 ∧ ∀ D, H D = none → t1 x σ (upd H D (.lst xs)) fun σ1 H1 => t2 (.ref D) σ1 H1 Q
section
variable {X : Cx}
theorem pg_star {e e2 : Expr} {k : Nat} {p pos : Pos} {t1 t2 : TG} (hc : X.calm = true) (h1 : PG X e t1) (h2 : PG X e2 t2) (hne : assignEach [e, .Starred e2 p] X.env = [(false, assign e X.env), (true, assign e2 X.env)] := by rfl) :
    PG X (.Tuple [e, .Starred e2 p] k pos) (gStar X.K t1 t2) := by
  refine ⟨fun pins s σ H v u Q I r hw => ?_⟩
  obtain ⟨a, x, xs, rfl, hq, hl, hw⟩ := hw
  cases r
  obtain ⟨its, rv, ht, hz⟩ := I.tuple hq
  cases rv with
  | @cons _ u1 _ us r1 rr =>
  have hus : us.length ≤ 10000 := by rw [← rr.length]; exact hl
  have sz : sizeLine = 16777216 := sizeLine_eq
  have ha : a < s.heap.objs.size := by obtain ⟨o, ho, _⟩ := ht; exact Heap.lt_size ho
  rw [assign_Tuple]
  refine wpAny_bind (wpAny_standAt ?_)
  unfold unpack
  rw [hne]
  refine wpAny_bind (wpAny_holding ?_)
  show wpAny _ _ (unpackItems (.ref a) 2 (some 1)) _ _ _
  unfold unpackItems
  refine wpAny_bind ?_
  unfold notIterableAtAll
  refine wpAny_bind (wpAny_specialOf ht.typeIs slot_tuple_iter.lookup (wpAny_pure ?_))
  rw [if_neg (by decide)]
  refine wpAny_bind (wpAny_holding (iter_tuple ht ?_))
  have ht1 : IsTup (s.heap.push { cls := .type "tuple_iterator", data := .fields #[.ref a, .int 0 0] }) a (u1 :: us).toArray := ht.push _
  refine wpAny_bind (wpAny_holding (draw_tuple (Nat.ne_of_lt ha) 1 0 _ _ ⟨_, Heap.get?_push_size _ rfl, rfl, rfl⟩ ht1 (by simp) fun h1' hit hs1 => ?_))
  have ht2 := ht1.extBut hs1.extBut (Nat.ne_of_lt ha)
  rw [Nat.zero_add] at hit
  obtain ⟨oi, hoi, _⟩ := id hit
  obtain ⟨ot, hot, _⟩ := id ht2
  show wpAny _ _ (if ((u1 :: us).drop 0 |>.take 1).length < 1 then _ else _) _ _ _
  rw [if_neg (by simp)]
  refine wpAny_bind (wpAny_holding (PySem.W.kun_collect (s := { s with heap := h1' }) (T := "tuple_iterator") (.inr (.inr (.inr rfl))) (Walks.tuple (A := X.A.in1) (I.ok.hd hc) s.heap.objs.size a (Nat.ne_of_lt ha) (u1 :: us).toArray) (fun j u st => st.1.typeIs) (k := 1) (by simp) ⟨hit, ht2⟩ (Heap.lt_size hoi) (Heap.lt_size hot) (fun h2' tk hk => ?_) (by simp; omega)))
  show wpAny _ _ (if us.length < 0 then _ else _) _ _ _
  rw [if_neg (by omega)]
  refine wpAny_bind (wpAny_newList ?_ (by show (us.take (us.length - 0)).length ≤ sizeLine; rw [List.length_take]; omega))
  have keep : ∀ b o, s.heap.get? b = some o → h2'.get? b = some o := fun b o eb => hk b o (Nat.ne_of_lt (Heap.lt_size eb)) (hs1.extBut b o (Nat.ne_of_lt (Heap.lt_size eb)) (Heap.get?_push_of_some _ eb))
  have I2 : Inv X pins σ H { s with heap := h2', toks := tk } := I.kept keep
  have I3 : Inv X pins σ (upd H h2'.objs.size (.lst xs)) { s with heap := h2'.push { cls := .type "list", data := .seq us.toArray }, toks := tk } :=
    I2.laid (t' := tk) (o := .lst xs) (fun b ob q => Heap.get?_push_of_some _ q) (Nat.le_refl _) ⟨by omega, us, 0, rr, Heap.get?_push_size _ rfl⟩
  have e1 : (us.take (us.length - 0)) = us := by rw [Nat.sub_zero, List.take_length]
  have e2 : us.drop (us.length - 0) = [] := by rw [Nat.sub_zero, List.drop_length]
  show wpAny _ _ (pure (((u1 :: us).drop 0 |>.take 1) ++ [Value.ref h2'.objs.size] ++ us.drop (us.length - 0))) _ _ { s with heap := h2'.push { cls := .type "list", data := .seq (us.take (us.length - 0)).toArray }, toks := tk }
  rw [e1, e2]
  refine wpAny_pure ?_
  refine assignInOrder_cons (thn (h1.run pins _ σ _ x u1 _ I3 r1 (hw _ (I2.hok.fresh (Nat.le_refl _)))) fun _ s4 ⟨σ1, H1, I4, q4⟩ => ?_)
  refine assignInOrder_cons (thn (h2.run pins s4 σ1 H1 (.ref h2'.objs.size) _ _ I4 rfl q4) fun _ s5 q5 => ?_)
  exact assignInOrder_nil q5
end
end SWL
set_option Elab.async false
set_option linter.all false
set_option maxRecDepth 100000
set_option maxHeartbeats 4000000
namespace SWL
open PySem PySem.Spec PyProof.Rows L2 LamX
/-! list(range(i, j, k)) -/
def rgC (i k : Int) (n : Nat) : List V := (List.range n).map fun (m : Nat) => V.int (i + ((m : Nat) : Int) * k)
theorem rgC_len (i k : Int) (n : Nat) : (rgC i k n).length = n := by unfold rgC; rw [List.length_map, List.length_range]
theorem vals_rgC {i k : Int} {n : Nat} {acc : Array Value} (h : ItemsOf (fun m v => ∃ t, v = .int (i + m * k) t) acc n) : Vals (rgC i k n) acc.toList := by
  have e : acc.toList.length = n := by rw [Array.length_toList]; exact h.1
  unfold rgC
  rw [← e]
  refine vals_of_get acc.toList _ fun j u hj => ?_
  obtain ⟨t, rfl⟩ := h.2 j u (by rw [← hj, Array.getElem?_toList])
  exact ⟨t, rfl⟩
def tLstRg3 (ta : TA) : TE := fun σ H Q => ta σ H fun vs H1 => ∃ (i j k : Int) (n : Nat), vs = [.int i, .int j, .int k] ∧ RgC i j k n ∧ n ≤ 10000 ∧ ∀ q, H1 q = none → Q (.ref q) (upd H1 q (.lst (rgC i k n)))
section
variable {X : Cx}
theorem pe_listRg3 {a b c : Expr} {ta : TA} {p pos p' pos' : Pos} (hc : X.calm = true) (hg : Gl X "list") (hm : X.mg "list" = none) (hg' : Gl X "range") (hm' : X.mg "range" = none) (ha : PA X [a, b, c] ta)
    (hs : starEach [a, b, c] X.env = (false, eval a X.env) :: starEach [b, c] X.env := by rfl) (hpl : (backTo pos' (starEach [b, c] X.env)).any (·.1) = false := by rfl)
    (na : starEach [Expr.Call (.Name "range" p') [a, b, c] [] pos'] X.env = (false, eval (Expr.Call (.Name "range" p') [a, b, c] [] pos') X.env) :: starEach [] X.env := by rfl) :
    PE X (.Call (.Name "list" p) [.Call (.Name "range" p') [a, b, c] [] pos'] [] pos) (tLstRg3 ta) := by
  refine ⟨fun pins s σ H Q I h => ?_⟩
  have he : wpAny (model X.prog X.w) X.A (eval (Expr.Call (.Name "range" p') [a, b, c] [] pos') X.env) (fun x s' => ∃ r i j k n t u v H', x = .ref r ∧ IsRange s'.heap r i j k t u v ∧ Inv X pins σ H' s' ∧ RgC i j k n ∧ n ≤ 10000 ∧ ∀ q, H' q = none → Q (.ref q) (upd H' q (.lst (rgC i k n)))) X.xe s := by
    refine Call_ (ld_blt I hg' hm' boot_range (PyProof.Rows.callWith_type1 (thn (ha.run pos' pins s σ H _ I h) fun us s1 ⟨vs, H1, I1, r1, q1⟩ => ?_) hs hpl))
    obtain ⟨i, j, k, n, e, ok, hn, q⟩ := q1
    subst e
    cases r1 with
    | cons r rr =>
      cases rr with
      | cons r' rr =>
        cases rr with
        | cons r'' rr =>
          cases rr
          obtain ⟨t, rfl⟩ := r
          obtain ⟨t', rfl⟩ := r'
          obtain ⟨t'', rfl⟩ := r''
          refine call_range_3 ok.1 ?_ (.inl (PyProof.noPylong_small ok.2.1))
          exact ⟨_, i, j, k, n, _, _, _, H1, rfl, IsRange.new .., I1.kept (t' := s1.toks) fun b o e => Heap.get?_push_of_some _ e, ok, hn, q⟩
  refine Call_ (ld_blt I hg hm boot_list (PyProof.Rows.callWith_type1 (args_cons (thn he fun x s1 ⟨r, i, j, k, n, t, u, v, H1, ex, hr, I1, ok, hn, q⟩ => args_nil ?_) na) na))
  subst ex
  refine call_list_range (n := n) (I1.ok.hd hc) hr ok.2.2.1 ok.2.2.2 (by omega) fun h' tk acc c' hk e' hi => ?_
  refine ⟨.ref s1.heap.objs.size, upd H1 s1.heap.objs.size (.lst (rgC i k n)), I1.laid hk (Nat.le_refl _) (show ObjOk X.prog X.w _ _ _ (.lst (rgC i k n)) from ⟨?_, acc.toList, c', vals_rgC hi, ?_⟩), rfl, q _ (I1.hok.fresh (Nat.le_refl _))⟩
  · rw [rgC_len, sizeLine_eq]; omega
  · rw [Array.toArray_toList]; exact e'
end
end SWL
set_option Elab.async false
set_option linter.all false
set_option maxRecDepth 100000
set_option maxHeartbeats 4000000
namespace SWL
open PySem PySem.Spec PyProof.Rows L2 LamX
/-! one, *others = a list -/
def gStarL (K : PySem.W.Frag) (t1 t2 : TG) : TG := fun v σ H Q => ∃ (a : Addr) (x : V) (xs : List V), v = .ref a ∧ SqL K H a (x :: xs) ∧ xs.length ≤ 10000 ∧ ∀ D, H D = none → t1 x σ (upd H D (.lst xs)) fun σ1 H1 => t2 (.ref D) σ1 H1 Q
section
variable {X : Cx}
theorem pg_starL {e e2 : Expr} {k : Nat} {p pos : Pos} {t1 t2 : TG} (hc : X.calm = true) (h1 : PG X e t1) (h2 : PG X e2 t2) (hne : assignEach [e, .Starred e2 p] X.env = [(false, assign e X.env), (true, assign e2 X.env)] := by rfl) :
    PG X (.Tuple [e, .Starred e2 p] k pos) (gStarL X.K t1 t2) := by
  refine ⟨fun pins s σ H v u Q I r hw => ?_⟩
  obtain ⟨a, x, xs, rfl, hq, hl, hw⟩ := hw
  cases r
  obtain ⟨its, rv, ht0, hz⟩ := I.list hq
  cases rv with
  | @cons _ u1 _ us r1 rr =>
  have hus : us.length ≤ 10000 := by rw [← rr.length]; exact hl
  have sz : sizeLine = 16777216 := sizeLine_eq
  have ht : s.heap.IsList a (u1 :: us).toArray := ht0.isList
  have ha : a < s.heap.objs.size := by obtain ⟨o, ho, _⟩ := ht; exact Heap.lt_size ho
  rw [assign_Tuple]
  refine wpAny_bind (wpAny_standAt ?_)
  unfold unpack
  rw [hne]
  refine wpAny_bind (wpAny_holding ?_)
  show wpAny _ _ (unpackItems (.ref a) 2 (some 1)) _ _ _
  unfold unpackItems
  refine wpAny_bind ?_
  unfold notIterableAtAll
  refine wpAny_bind (wpAny_specialOf ht.typeIs slot_list_iter.lookup (wpAny_pure ?_))
  rw [if_neg (by decide)]
  refine wpAny_bind (wpAny_holding (wpAny_pyIter_list ht ?_))
  have ht1 : (s.heap.push { cls := .type "list_iterator", data := .fields #[.ref a, .int 0 0] }).IsList a (u1 :: us).toArray := ht.push _
  refine wpAny_bind (wpAny_holding (PySem.W.kun_draw (Nat.ne_of_lt ha) 1 0 _ _ ⟨_, Heap.get?_push_size _ rfl, rfl, rfl⟩ ht1 (by simp) fun h1' hit hs1 => ?_))
  have ht2 := ht1.extBut hs1.extBut (Nat.ne_of_lt ha)
  rw [Nat.zero_add] at hit
  obtain ⟨oi, hoi, _⟩ := id hit
  obtain ⟨ot, hot, _⟩ := id ht2
  show wpAny _ _ (if ((u1 :: us).drop 0 |>.take 1).length < 1 then _ else _) _ _ _
  rw [if_neg (by simp)]
  refine wpAny_bind (wpAny_holding (PySem.W.kun_collect (s := { s with heap := h1' }) (T := "list_iterator") (.inr (.inr (.inl rfl))) (Walks.list (A := X.A.in1) (I.ok.hd hc) s.heap.objs.size a (Nat.ne_of_lt ha) (u1 :: us).toArray) (fun j u st => st.1.typeIs) (k := 1) (by simp) ⟨hit, ht2⟩ (Heap.lt_size hoi) (Heap.lt_size hot) (fun h2' tk hk => ?_) (by simp; omega)))
  show wpAny _ _ (if us.length < 0 then _ else _) _ _ _
  rw [if_neg (by omega)]
  refine wpAny_bind (wpAny_newList ?_ (by show (us.take (us.length - 0)).length ≤ sizeLine; rw [List.length_take]; omega))
  have keep : ∀ b o, s.heap.get? b = some o → h2'.get? b = some o := fun b o eb => hk b o (Nat.ne_of_lt (Heap.lt_size eb)) (hs1.extBut b o (Nat.ne_of_lt (Heap.lt_size eb)) (Heap.get?_push_of_some _ eb))
  have I2 : Inv X pins σ H { s with heap := h2', toks := tk } := I.kept keep
  have I3 : Inv X pins σ (upd H h2'.objs.size (.lst xs)) { s with heap := h2'.push { cls := .type "list", data := .seq us.toArray }, toks := tk } :=
    I2.laid (t' := tk) (o := .lst xs) (fun b ob q => Heap.get?_push_of_some _ q) (Nat.le_refl _) ⟨by omega, us, 0, rr, Heap.get?_push_size _ rfl⟩
  have e1 : (us.take (us.length - 0)) = us := by rw [Nat.sub_zero, List.take_length]
  have e2 : us.drop (us.length - 0) = [] := by rw [Nat.sub_zero, List.drop_length]
  show wpAny _ _ (pure (((u1 :: us).drop 0 |>.take 1) ++ [Value.ref h2'.objs.size] ++ us.drop (us.length - 0))) _ _ { s with heap := h2'.push { cls := .type "list", data := .seq (us.take (us.length - 0)).toArray }, toks := tk }
  rw [e1, e2]
  refine wpAny_pure ?_
  refine assignInOrder_cons (thn (h1.run pins _ σ _ x u1 _ I3 r1 (hw _ (I2.hok.fresh (Nat.le_refl _)))) fun _ s4 ⟨σ1, H1, I4, q4⟩ => ?_)
  refine assignInOrder_cons (thn (h2.run pins s4 σ1 H1 (.ref h2'.objs.size) _ _ I4 rfl q4) fun _ s5 q5 => ?_)
  exact assignInOrder_nil q5
end
end SWL
set_option Elab.async false
set_option linter.all false
set_option maxRecDepth 100000
set_option maxHeartbeats 4000000
namespace SWL
open PySem PySem.Spec PyProof.Rows L2 LamX NdefX
/-! defs that get functions which another frame made: what those captured is told of the very heap -/
theorem CellsAt.on {X : Cx} {pins : List (Addr × Obj)} {σ : L2.St} {H : Hp} {s : Shared} {cl : List (Str × Addr)} {fr : List Str} {ws : List (Option V)} (C : CellsAt cl fr ws X.s_0.heap X.H_0) (hx : X.ex = []) (I : Inv X pins σ H s) : CellsAt cl fr ws s.heap H := by
  have nx : ∀ c, c ∉ X.ex := fun c h => by rw [hx] at h; cases h
  have kp : ∀ y c, cl.lookup y = some c → ∀ v, X.s_0.heap.IsCell c v → s.heap.IsCell c v := fun y c e v ⟨o, ho, hd⟩ => by
    obtain ⟨sl, q⟩ := I.base.any ho (C.all y c e).1 (nx c)
    exact ⟨_, q, hd⟩
  refine ⟨C.len, fun y c e => ?_, C.inj, fun i y e => ?_⟩
  · obtain ⟨n, v, z⟩ := C.all y c e
    refine ⟨?_, v, kp y c e v z⟩
    obtain ⟨o, ho, _⟩ := z
    exact I.base.free c o ho n (nx c)
  · obtain ⟨c, hc, hv⟩ := C.has i y e
    refine ⟨c, hc, fun v ev => ?_⟩
    obtain ⟨u, r, z⟩ := hv v ev
    exact ⟨u, r, kp y c hc _ z⟩
abbrev SpH := List V → Heap → Hp → VK → XK → Prop
structure FnH (P : Program) (w : World) (K : PySem.W.Frag) (mg : Str → Option Value) (base : Heap) (k : Nat) (f : Addr) (fd : FuncData) (ps : List Str) (sp : SpH) : Prop where
  len : ∀ vs h H Q E, sp vs h H Q E → vs.length = ps.length
  run : ∀ (A : Around) (outer : List Env) (s : Shared) (H : Hp) (args : Args) (us : List Value) (vs : List V) (Q : VK) (E : XK), Room k A → Env0 P w K mg base A outer s H → BindsTo s fd args (ps.zip us) → Vals vs us → sp vs s.heap H Q E →
    codeAny (model P w) A (.call (.ref f) args) (CR CX0 outer P w H s Q E) s
theorem FnH.mono {P : Program} {w : World} {K : PySem.W.Frag} {mg : Str → Option Value} {base : Heap} {j k : Nat} {f : Addr} {fd : FuncData} {ps : List Str} {sp : SpH} (F : FnH P w K mg base j f fd ps sp) (h : j ≤ k) : FnH P w K mg base k f fd ps sp :=
  ⟨F.len, fun A outer s H args us vs Q E hr => F.run A outer s H args us vs Q E (hr.mono h)⟩
section
variable {P : Program} {w : World} {K : PySem.W.Frag} {mg : Str → Option Value} {base : Heap}
theorem fnh_ok {x qual : Str} {params : Arguments} {body : List Stmt} {scope : Scope} {dV kV doc pm cdv ct oc : Value} {an od : Option Addr} {osl : Array (Option Value)} {f : Addr} {N ps : List Str} {k : Nat} {sp : SpH}
    (lk : K.lookup f = some ⟨oc, od, .func (PySem.W.fnOf x qual params body scope dV kV doc pm an cdv ct), osl⟩) (hcd : PySem.W.codeIn K cdv qual = true) (S : FnScope N ps scope) (len : ∀ vs h H Q E, sp vs h H Q E → vs.length = ps.length)
    (hbody : ∀ (A : Around) (outer : List Env) (s : Shared) (H : Hp) (vs : List V) (Q : VK) (E : XK), Room k (A.deeper (envOfC qual scope s.heap.objs.size f cdv)) → sp vs s.heap H Q E →
      ∃ t, PSs (cxOf CX0 P w K mg base N qual scope f cdv A outer s H E).nox body t ∧ t { nx := fun _ H' => Q .non H', rt := Q } (L2.start N vs) H) :
    FnH P w K mg base (k + 1) f (PySem.W.fnOf x qual params body scope dV kV doc pm an cdv ct) ps sp := by
  refine ⟨len, fun A outer s H args us vs Q E hr e0 hb r hsp => ?_⟩
  refine run_ofS lk hcd S hr e0 hb r (len _ _ _ _ _ hsp) fun hr2 => ?_
  obtain ⟨t, h, q⟩ := hbody A outer s H vs Q E hr2 hsp
  exact ⟨t, h.nox, q⟩
end
/-- a call of such a def: what it asks of the heap is shown by what holds of the running frame -/
def tCallH (sp : L2.St → Sp) (dvs : List V) (t : TA) : TE := fun σ H Q => t σ H fun vs H1 => sp σ (vs ++ dvs) H1 Q E0
section
variable {X : Cx} {k : Nat} {f : Addr} {fd : FuncData} {ps : List Str} {spH : SpH} {sp : L2.St → Sp} {dvs : List V} {ds : List Value} {x : Str} {p pos : Pos} {e : Expr} {es : List Expr} {t : TA}
theorem pe_callH (F : FnH X.prog X.w X.K X.mg X.base k f fd ps spH) (hr : Room k X.A) (hg : Gl X x) (hm : X.mg x = some (.ref f)) (hk : PySem.W.keepIn X.K (.ref f) = true) (hb : Binds X.K fd ps ds) (hd : Vals dvs ds)
    (hs : ∀ pins σ H s vs Q, Inv X pins σ H s → sp σ vs H Q E0 → spH vs s.heap H Q E0) (ha : PA X (e :: es) t)
    (hdb : (x == ("__debug__" : Str)) = false := by decide) (he : starEach (e :: es) X.env = (false, eval e X.env) :: starEach es X.env := by rfl) (hpl : (backTo pos (starEach es X.env)).any (·.1) = false := by rfl) :
    PE X (.Call (.Name x p) (e :: es) [] pos) (tCallH sp dvs t) := by
  constructor
  intro pins s σ H Q I h
  refine wpAny_Call_Name_kw (ld_glob I hg hm (PySem.W.callWith_K (h₀ := X.base) I.ok.mod.kin hk (thn (ha.run pos pins s σ H _ I h) fun us s1 ⟨vs, H1, I1, r, q⟩ => ⟨I1.kIn, ?_⟩) he hpl) hdb)
  have q2 := hs pins σ H1 s1 (vs ++ dvs) Q I1 q
  have r2 : Vals (vs ++ dvs) (us ++ ds) := r.append hd
  have hl : (us ++ ds).length = ps.length := r2.length.symm.trans (F.len _ _ _ _ _ q2)
  have hb1 := hb s1 us I1.kIn hl
  refine wpAny_call (codeAny_mono (F.run X.A X.stack s1 H1 ⟨us, []⟩ (us ++ ds) (vs ++ dvs) Q E0 hr I1.env0 hb1 r2 q2) fun r s' hq => ?_)
  match r, hq with
  | .error _, z => exact False.elim z
  | .ok (.ret u), z => exact I1.after z
  | .ok .next, z => exact False.elim z
  | .ok .brk, z => exact False.elim z
  | .ok .cont, z => exact False.elim z
/-- f(..), f a name that holds a function which another frame made -/
def tCallC (i : Nat) (f : Addr) (F : NF) (sp : Sp) (t : TA) : TE := fun σ H Q => σ[i]? = some (some (.ref f)) ∧ H f = some (FnO f F) ∧ t σ H fun vs H1 => H1 f = some (FnO f F) ∧ H1 F.c = some (CodeO F.c F.qual) ∧ sp vs H1 Q E0
theorem pe_callC {F : NF} {fr : List Str} {ws : List (Option V)} {spN : List (Option V) → Sp} {i : Nat} (Fn : NOk X.prog X.w X.K X.mg X.base CX0 k f F ps fr spN) (C : CellsAt F.cl fr ws X.s_0.heap X.H_0) (hx : X.ex = []) (hr : Room k X.A) (hN : X.N[i]? = some x) (hv : Vis X.env.scope x) (ha : PA X (e :: es) t)
    (hd : (x == ("__debug__" : Str)) = false := by decide) (hcd : (x == ("__classdict__" : Str)) = false := by decide)
    (he : starEach (e :: es) X.env = (false, eval e X.env) :: starEach es X.env := by rfl) (hpl : (backTo pos (starEach es X.env)).any (·.1) = false := by rfl) :
    PE X (.Call (.Name x p) (e :: es) [] pos) (tCallC i f F (spN ws) t) := by
  refine ⟨fun pins s σ H Q I h => ?_⟩
  obtain ⟨hs, hf, ht⟩ := h
  refine wpAny_Call_Name_kw (thn ((pe_var (pos := p) hN hv hd hcd).run pins s σ H (fun v H1 => v = .ref f ∧ H1 = H) I ⟨.ref f, hs, rfl, rfl⟩) fun u s1 ⟨v, H1, I1, r1, q1⟩ => ?_)
  obtain ⟨ev, eH⟩ := q1
  subst ev
  rw [eH] at I1
  obtain rfl : u = Value.ref f := r1
  refine PySem.W.callWith_F (first := []) (fnAt_of I1 hf) (thn (ha.run pos pins s1 σ H _ I1 ht) fun us s2 ⟨vs, H2, I2, r, h1, h2, q⟩ => ⟨fnAt_of I2 h1, ?_⟩) he hpl
  show wpAny _ _ (call (.ref f) us) _ _ _
  refine wpAny_call (codeAny_mono (Fn.run X.A X.stack s2 H2 us vs ws Q E0 hr I2.env0 h1 h2 (CellsAt.on C hx I2) r q) fun r s' hq => ?_)
  match r, hq with
  | .error _, z => exact False.elim z
  | .ok (.ret u), z => exact I2.after z
  | .ok .next, z => exact False.elim z
  | .ok .brk, z => exact False.elim z
  | .ok .cont, z => exact False.elim z
end
end SWL
set_option Elab.async false
set_option linter.all false
set_option maxRecDepth 100000
set_option maxHeartbeats 4000000
namespace SWL
open PySem PySem.Spec PyProof.Rows L2
/-! zip of a text and a tuple -/
def PairsST (K : PySem.W.Frag) (x : Str) (b : Addr) : It :=
  ⟨fun i H => ∃ (ys : List V) (y : V) (c : Nat), SqT K H b ys ∧ x.cps[i]? = some c ∧ ys[i]? = some y,
    fun i H v H' => ∃ (T : Addr) (c : Nat) (y : V), v = .ref T ∧ H T = none ∧ H' = upd H T (.tup [.str ⟨#[c]⟩, y]) ∧ x.cps[i]? = some c ∧ ∀ ys, SqT K H b ys → ys[i]? = some y,
    fun i H => ∃ ys : List V, SqT K H b ys ∧ i = min x.cps.size ys.length⟩
theorem turnZipST {P : Program} {w : World} {K : PySem.W.Frag} {elts : List Expr} {kk : Nat} {tp : Pos} {N b : Addr} (x : Str) (t : Tok) (hb : b < N) :
    Turn P w K (.Tuple elts kk tp) (PairsST K x b) [N + 4, N + 2, N + 3, N, N + 1] (N + 4)
      (fun i h => IsZip h (N + 4) (N + 2) (N + 3) .none ∧ IsTupOf2 h (N + 2) (.ref N) (.ref (N + 1)) ∧ (∃ a c, IsTupOf2 h (N + 3) a c) ∧ h.IsStrIter N (strIterType x) x t i ∧ h.IsTupleIter (N + 1) b i) where
  mem := by simp
  obj := fun i h st c hc => by
    obtain ⟨z1, z2, ⟨_, _, z3⟩, ⟨o4, z4, _, d4⟩, ⟨o5, z5, _, d5⟩⟩ := st
    rcases (by simpa using hc : c = N + 4 ∨ c = N + 2 ∨ c = N + 3 ∨ c = N ∨ c = N + 1) with e | e | e | e | e
    · exact ⟨_, by rw [e]; exact z1, fun v q => by cases q⟩
    · exact ⟨_, by rw [e]; exact z2, fun v q => by cases q⟩
    · exact ⟨_, by rw [e]; exact z3, fun v q => by cases q⟩
    · exact ⟨o4, by rw [e]; exact z4, fun v q => by rw [d4] at q; cases q⟩
    · exact ⟨o5, by rw [e]; exact z5, fun v q => by rw [d5] at q; cases q⟩
  keep := fun i h h' st hk => by
    obtain ⟨z1, z2, ⟨a, c, z3⟩, z4, z5⟩ := st
    exact ⟨hk _ (by simp) _ z1, hk _ (by simp) _ z2, ⟨a, c, hk _ (by simp) _ z3⟩, let ⟨o, e, r⟩ := z4; ⟨o, hk _ (by simp) o e, r⟩, z5.at fun o q => hk (N + 1) (by simp) o q⟩
  item := by
    intro X hP hw hK hc i pins s σ H E I hf st hg
    subst hP hw hK
    have hh : X.A.handled = none := I.ok.hd hc
    obtain ⟨ys, y, c, hq, hx, hy⟩ := hg
    obtain ⟨its, rv, p, _⟩ := I.tuple hq
    have hne : b ≠ N + 1 := Nat.ne_of_lt (Nat.lt_succ_of_lt hb)
    have D1 := Draws.text (prog := X.prog) (w := X.w) (A := X.A.in1) hh N x t
    have D2 := Draws.tuple (prog := X.prog) (w := X.w) (A := X.A.in1) hh (N + 1) b hne its.toArray
    have S : ZipSep2 (N + 4) (N + 2) (N + 3) N (N + 1) [N] [N + 1, b] := zip_sep2 (fp1 := []) (fp2 := [b]) (fun _ h => nomatch h) (fun c h => by rw [List.mem_singleton.mp h]; exact hb)
    have G := GoesN.zip2 (elts := elts) (x1 := kk) (pos := tp) S D1 D2
    have hl := rv.length
    have hi : i < min x.cps.size its.toArray.size := by
      have h1 := (Array.getElem?_eq_some_iff.mp hx).1
      have h2 := (List.getElem?_eq_some_iff.mp hy).1
      simp only [List.size_toArray]
      omega
    obtain ⟨z1, z2, z3, z4, z5⟩ := id st
    refine G.goes i s _ E hi ⟨z1, z2, z3, z4, z5, p⟩ fun v h' tk hY st' hk _ => ?_
    obtain ⟨T, a, d, rfl, hT, ⟨c', t1, hc1, rfl⟩, hd1, hTup⟩ := hY
    obtain ⟨y1, y2, y3, y4, y5, _⟩ := st'
    have fr : H T = none := I.hok.fresh hT
    obtain ⟨u2, hu2, ru2⟩ := rv.get hy
    have ed : d = u2 := by
      have hd2 : its[i]? = some d := by simpa using hd1
      rw [hu2] at hd2
      exact (Option.some.inj hd2).symm
    rw [ed] at hTup
    refine ⟨.ref T, upd H T (.tup [.str ⟨#[c']⟩, y]), I.turnedNew (t' := tk) (ch := [N + 4, N + 3, N, N + 1]) hk (fun e he => hf e ?_) hT ?_, rfl, ⟨T, c', y, rfl, fr, rfl, hc1, fun l hl2 => by rw [I.tuple_inj hl2 hq]; exact hy⟩, ⟨y1, y2, y3, y4, y5⟩, fun e he => ?_⟩
    · rcases (by simpa using he : e = N + 4 ∨ e = N + 3 ∨ e = N ∨ e = N + 1) with q | q | q | q <;> simp [q]
    · exact ⟨by show 2 ≤ sizeLine; decide, _, .cons ⟨_, rfl⟩ (.cons ru2 .nil), hTup⟩
    · have hlt : e < s.heap.objs.size := by
        obtain ⟨z1, z2, ⟨_, _, z3⟩, ⟨o4, z4, _⟩, ⟨o5, z5, _⟩⟩ := st
        rcases (by simpa using he : e = N + 4 ∨ e = N + 2 ∨ e = N + 3 ∨ e = N ∨ e = N + 1) with q | q | q | q | q
        · rw [q]; exact Heap.lt_size z1
        · rw [q]; exact Heap.lt_size z2
        · rw [q]; exact Heap.lt_size z3
        · rw [q]; exact Heap.lt_size z4
        · rw [q]; exact Heap.lt_size z5
      rw [upd_ne (Nat.ne_of_lt (Nat.lt_of_lt_of_le hlt hT))]
      exact (hf e he).1
  done := by
    intro X hP hw hK hc i pins s σ H E I hf st hg
    subst hP hw hK
    have hh : X.A.handled = none := I.ok.hd hc
    obtain ⟨ys, hq, hi⟩ := hg
    obtain ⟨its, rv, p, _⟩ := I.tuple hq
    have hne : b ≠ N + 1 := Nat.ne_of_lt (Nat.lt_succ_of_lt hb)
    have D1 := Draws.text (prog := X.prog) (w := X.w) (A := X.A.in1) hh N x t
    have D2 := Draws.tuple (prog := X.prog) (w := X.w) (A := X.A.in1) hh (N + 1) b hne its.toArray
    have S : ZipSep2 (N + 4) (N + 2) (N + 3) N (N + 1) [N] [N + 1, b] := zip_sep2 (fp1 := []) (fp2 := [b]) (fun _ h => nomatch h) (fun c h => by rw [List.mem_singleton.mp h]; exact hb)
    have G := GoesN.zip2 (elts := elts) (x1 := kk) (pos := tp) S D1 D2
    have hl := rv.length
    have hi : i = min x.cps.size its.toArray.size := by
      have e : its.toArray.size = its.length := List.size_toArray
      omega
    rw [hi] at st
    obtain ⟨z1, z2, z3, z4, z5⟩ := st
    refine G.stops s _ E ⟨z1, z2, z3, z4, z5, p⟩ fun h' tk hk _ => ?_
    refine I.turnedL (t' := tk) (ch := [N + 4, N + 3, N, N + 1]) hk fun e he => hf e ?_
    rcases (by simpa using he : e = N + 4 ∨ e = N + 3 ∨ e = N ∨ e = N + 1) with q | q | q | q <;> simp [q]
  self := fun A i s Q E st h => wpAny_pyIter_zip st.1 h
def iZipST (K : PySem.W.Frag) (ta : TA) : TI := fun σ H R => ta σ H fun vs H1 => ∃ x b ys, vs = [.str x, .ref b] ∧ SqT K H1 b ys ∧ R (PairsST K x b) H1
theorem pi_zipST {X : Cx} {e e2 : Expr} {ta : TA} {p pos tpos : Pos} {elts : List Expr} {kk : Nat} (hg : Gl X "zip") (hm : X.mg "zip" = none) (ha : PA X [e, e2] ta)
    (hs : starEach [e, e2] X.env = (false, eval e X.env) :: starEach [e2] X.env := by rfl) (hpl : (backTo pos (starEach [e2] X.env)).any (·.1) = false := by rfl) :
    PI X (.Tuple elts kk tpos) (.Call (.Name "zip" p) [e, e2] [] pos) (iZipST X.K ta) := by
  refine ⟨fun pins s σ H R I h => Call_ (ld_blt I hg hm boot_zip (callWith_type1 (thn (ha.run pos pins s σ H _ I h) fun us s1 q => ?_) hs hpl))⟩
  obtain ⟨vs, H1, I1, rel, x, b, ys, rfl, hq, q⟩ := q
  obtain ⟨u1, u2, rfl, ⟨t1, rfl⟩, r2⟩ := vals2 rel
  obtain rfl : u2 = Value.ref b := r2
  obtain ⟨its, rv, p, _⟩ := I1.tuple hq
  have hb : b < s1.heap.objs.size := by
    obtain ⟨o, ho, _⟩ := id p
    exact Heap.lt_size ho
  refine zip_begins2 (begins_text x t1) (begins_tuple b its.toArray) trivial p fun h' z1 z2 z3 z4 z5 hsz hk => wpAny_pyIter_zip z1 ?_
  refine ⟨_, _, _, _, H1, rfl, I1.kept (t' := s1.toks) hk, turnZipST (N := s1.heap.objs.size) x t1 hb, ⟨z1, z2, ⟨_, _, z3⟩, ⟨_, z4, rfl, rfl⟩, ⟨_, z5, rfl, rfl⟩⟩, fun c hc => ?_, q⟩
  have hle : s1.heap.objs.size ≤ c := by
    rcases (by simpa using hc : c = s1.heap.objs.size + 4 ∨ c = s1.heap.objs.size + 2 ∨ c = s1.heap.objs.size + 3 ∨ c = s1.heap.objs.size ∨ c = s1.heap.objs.size + 1) with e | e | e | e | e <;> rw [e] <;> first | exact Nat.le_add_right _ _ | exact Nat.le_refl _
  exact I1.fpOk hle (I1.hok.fresh hle)
/-- the walk -/
theorem walk_zipST {K : PySem.W.Frag} {x : Str} {b : Addr} {ys : List V} (hl : ys.length = x.cps.size) : Walk (PairsST K x b) x.cps.size (fun H => SqT K H b ys) (fun i H v H' => ∃ (T : Addr) (c : Nat) (y : V), v = .ref T ∧ H T = none ∧ H' = upd H T (.tup [.str ⟨#[c]⟩, y]) ∧ x.cps[i]? = some c ∧ ys[i]? = some y) :=
  ⟨fun i H hi h => ⟨ys, ys[i]'(by omega), x.cps[i], h, Array.getElem?_eq_getElem hi, List.getElem?_eq_getElem (by omega)⟩, fun H h => ⟨ys, h, by omega⟩,
    fun i H v H' hi h ⟨T, c, y, h1, h2, h3, h4, h5⟩ => ⟨T, c, y, h1, h2, h3, h4, h5 ys h⟩⟩
end SWL
set_option Elab.async false
set_option linter.all false
set_option maxRecDepth 100000
set_option maxHeartbeats 4000000
namespace SWL
open PySem PySem.Spec PyProof.Rows L2
/-! any walk: what a turn does with the next wish is all that is asked (comprehensions with two for) -/
theorem walk_it {J : It} {n : Nat} {G : Hp → Prop} {Y : Nat → Hp → V → Hp → Prop} (w : Walk J n G Y) {Step : V → Hp → (Hp → Prop) → Prop} {H1 : Hp} {Qd : Hp → Prop} (Pv : Nat → Hp → Prop) (h0 : Pv 0 H1) (hG : ∀ i H, i ≤ n → Pv i H → G H)
    (hs : ∀ i x H H', i < n → Pv i H → Y i H x H' → Step x H' (Pv (i + 1))) (hd : ∀ H, Pv n H → Qd H) :
    ∃ W : Nat → Nat → Hp → Prop, (∃ m, W 0 m H1) ∧ ∀ i m H, W i m H →
      (J.stop i H ∧ Qd H) ∨ (J.go i H ∧ ∃ Nx : Hp → Prop, (∀ H', Nx H' → ∃ m', m' < m ∧ W (i + 1) m' H') ∧ ∀ x H', J.yld i H x H' → Step x H' Nx) := by
  refine ⟨fun i m H => m = n - i ∧ i ≤ n ∧ Pv i H, ⟨n, by simp, Nat.zero_le _, h0⟩, ?_⟩
  rintro i m H ⟨rfl, hi, p⟩
  have q := hG i H hi p
  by_cases hlt : i < n
  · exact .inr ⟨w.goes i H hlt q, Pv (i + 1), fun H' p' => ⟨n - (i + 1), by omega, rfl, hlt, p'⟩, fun x H' y => hs i x H H' hlt p (w.yields i H x H' hlt q y)⟩
  · have e : i = n := by omega
    subst e
    exact .inl ⟨w.stops H q, hd H p⟩
end SWL
set_option Elab.async false
set_option linter.all false
set_option maxRecDepth 100000
set_option maxHeartbeats 4000000
namespace SWL
open PySem PySem.Spec PyProof.Rows L2
/-! {(a, b): v}: a display of one pair, the key a tuple of ints and texts -/
def tDispT1 (tk tv : TE) : TE := fun σ H Q => ∀ p, H p = none → tk σ (upd H p (.dT [])) fun x H1 => tv σ H1 fun y H2 => H2 p = some (.dT []) ∧ ∃ b ks, x = .ref b ∧ H2 b = some (.tup (ks.map kV)) ∧ Q (.ref p) (upd H2 p (.dT [(ks, y)]))
theorem pe_dispT1 {X : Cx} {pos : Pos} {k v : Expr} {tk tv : TE} (hu : X.A.units + 16 < cLine) (hk : PE X k tk) (hv : PE X v tv) : PE X (.Dict [some k] [v] pos) (tDispT1 tk tv) := by
  refine ⟨fun pins s σ H Q I q => ?_⟩
  have hn := I.hok.fresh (Nat.le_refl s.heap.objs.size)
  have I1 := I.laid (a := s.heap.objs.size) (o := .dT []) (h' := s.heap.push { cls := .type "dict", data := .dict #[] }) (t' := s.toks) (fun _ _ q => Heap.get?_push_of_some _ q) (Nat.le_refl _) (dt_empty s.heap I.big)
  have hpl : (pairTrees [some k] [v] X.env pos).length = 1 := pairTrees_length [some k] [v] X.env pos rfl rfl
  rw [arm_eval_Dict, zip_pairTrees [some k] [v] X.env pos rfl rfl, dictDisplay_pairs _ (fun e => by rw [e] at hpl; cases hpl) (by omega)]
  refine wpAny_bind (wpAny_standAt (wpAny_bind (wpAny_subDictH (knd := tupleKind (mixKind X.prog X.w)) (Q := fun d s' => wpAny (model X.prog X.w) X.A (pure (Value.ref d)) _ _ s') (show X.A.units < cLine by omega) (by omega) ?_)))
  have hq := q _ hn
  refine pairTrees_cons_walk (thn (hk.run pins _ σ _ _ I1 hq) fun u s1 ⟨x, H1, J1, rx, q1⟩ => thn (hv.run pins s1 σ H1 _ J1 q1) fun w2 s2 ⟨y, H2, I2, ry, e, b, ks, ex, eb, q2⟩ => pairTrees_nil_walk ?_)
  subst ex
  cases (show u = Value.ref b from rx)
  obtain ⟨z, hd, xs, rel, dd⟩ := dt_of I2.hok e
  cases rel
  refine ⟨[(ks, b, w2)], ⟨rfl, rfl, key_of I2.hok eb, trivial⟩, dd, fun h' tk dd' hs => wpAny_pure ⟨.ref s.heap.objs.size, _, ?_, rfl, q2⟩⟩
  obtain ⟨q0, es, ep, hq0, h2, h3, h4, _, h5⟩ := dd'
  refine d_write I2 (by rw [e]; exact True.intro) hs ⟨q0, hq0⟩ ⟨by show 1 ≤ sizeLine; decide, hd, [(ks, b, w2)], .cons ⟨rfl, ?_, ry⟩ .nil, q0, es, ep, hq0, h2, h3, h4, h5⟩
  rw [upd_ne (ne_of eb e (fun z => nomatch z))]
  exact eb
end SWL
set_option Elab.async false
set_option linter.all false
set_option maxRecDepth 100000
set_option maxHeartbeats 8000000
namespace SWL
open PySem PySem.Spec PyProof.Rows L2
/-! zip of a text and two tuples -/
def PairsSTT (K : PySem.W.Frag) (x : Str) (b e : Addr) : It :=
  ⟨fun i H => ∃ (ys zs : List V) (y z : V) (c : Nat), SqT K H b ys ∧ SqT K H e zs ∧ x.cps[i]? = some c ∧ ys[i]? = some y ∧ zs[i]? = some z,
    fun i H v H' => ∃ (T : Addr) (c : Nat) (y z : V), v = .ref T ∧ H T = none ∧ H' = upd H T (.tup [.str ⟨#[c]⟩, y, z]) ∧ x.cps[i]? = some c ∧ (∀ ys, SqT K H b ys → ys[i]? = some y) ∧ ∀ zs, SqT K H e zs → zs[i]? = some z,
    fun i H => ∃ ys zs : List V, SqT K H b ys ∧ SqT K H e zs ∧ i = min (min x.cps.size ys.length) zs.length⟩
theorem turnZipSTT {P : Program} {w : World} {K : PySem.W.Frag} {elts : List Expr} {kk : Nat} {tp : Pos} {N b e : Addr} (x : Str) (t : Tok) (hb : b < N) (he : e < N) :
    Turn P w K (.Tuple elts kk tp) (PairsSTT K x b e) [N + 5, N + 3, N + 4, N, N + 1, N + 2] (N + 5)
      (fun i h => IsZip h (N + 5) (N + 3) (N + 4) .none ∧ IsTupOf3 h (N + 3) (.ref N) (.ref (N + 1)) (.ref (N + 2)) ∧ (∃ a c d, IsTupOf3 h (N + 4) a c d) ∧ h.IsStrIter N (strIterType x) x t i ∧ h.IsTupleIter (N + 1) b i ∧ h.IsTupleIter (N + 2) e i) where
  mem := by simp
  obj := fun i h st c hc => by
    obtain ⟨z1, z2, ⟨_, _, _, z3⟩, ⟨o4, z4, _, d4⟩, ⟨o5, z5, _, d5⟩, ⟨o6, z6, _, d6⟩⟩ := st
    rcases (by simpa using hc : c = N + 5 ∨ c = N + 3 ∨ c = N + 4 ∨ c = N ∨ c = N + 1 ∨ c = N + 2) with e | e | e | e | e | e
    · exact ⟨_, by rw [e]; exact z1, fun v q => by cases q⟩
    · exact ⟨_, by rw [e]; exact z2, fun v q => by cases q⟩
    · exact ⟨_, by rw [e]; exact z3, fun v q => by cases q⟩
    · exact ⟨o4, by rw [e]; exact z4, fun v q => by rw [d4] at q; cases q⟩
    · exact ⟨o5, by rw [e]; exact z5, fun v q => by rw [d5] at q; cases q⟩
    · exact ⟨o6, by rw [e]; exact z6, fun v q => by rw [d6] at q; cases q⟩
  keep := fun i h h' st hk => by
    obtain ⟨z1, z2, ⟨a, c, d, z3⟩, z4, z5, z6⟩ := st
    exact ⟨hk _ (by simp) _ z1, hk _ (by simp) _ z2, ⟨a, c, d, hk _ (by simp) _ z3⟩, let ⟨o, e, r⟩ := z4; ⟨o, hk _ (by simp) o e, r⟩, z5.at fun o q => hk (N + 1) (by simp) o q, z6.at fun o q => hk (N + 2) (by simp) o q⟩
  item := by
    intro X hP hw hK hc i pins s σ H E I hf st hg
    subst hP hw hK
    have hh : X.A.handled = none := I.ok.hd hc
    obtain ⟨ys, zs, y, z, c, hq, hq2, hx, hy, hz⟩ := hg
    obtain ⟨its, rv, p, _⟩ := I.tuple hq
    obtain ⟨its2, rv2, p2, _⟩ := I.tuple hq2
    have hne : b ≠ N + 1 := Nat.ne_of_lt (Nat.lt_succ_of_lt hb)
    have hne2 : e ≠ N + 2 := Nat.ne_of_lt (Nat.lt_succ_of_lt (Nat.lt_succ_of_lt he))
    have D1 := Draws.text (prog := X.prog) (w := X.w) (A := X.A.in1) hh N x t
    have D2 := Draws.tuple (prog := X.prog) (w := X.w) (A := X.A.in1) hh (N + 1) b hne its.toArray
    have D3 := Draws.tuple (prog := X.prog) (w := X.w) (A := X.A.in1) hh (N + 2) e hne2 its2.toArray
    have S : ZipSep3 (N + 5) (N + 3) (N + 4) N (N + 1) (N + 2) [N] [N + 1, b] [N + 2, e] := zip_sep3 (fp1 := []) (fp2 := [b]) (fp3 := [e]) (fun _ h => nomatch h) (fun c h => by rw [List.mem_singleton.mp h]; exact hb) (fun c h => by rw [List.mem_singleton.mp h]; exact he)
    have G := GoesN.zip3 (elts := elts) (x1 := kk) (pos := tp) S D1 D2 D3
    have hl := rv.length
    have hl2 := rv2.length
    have hi : i < min (min x.cps.size its.toArray.size) its2.toArray.size := by
      have h1 := (Array.getElem?_eq_some_iff.mp hx).1
      have h2 := (List.getElem?_eq_some_iff.mp hy).1
      have h3 := (List.getElem?_eq_some_iff.mp hz).1
      simp only [List.size_toArray]
      omega
    obtain ⟨z1, z2, z3, z4, z5, z6⟩ := id st
    refine G.goes i s _ E hi ⟨z1, z2, z3, z4, ⟨z5, p⟩, ⟨z6, p2⟩⟩ fun v h' tk hY st' hk _ => ?_
    obtain ⟨T, a, d, u, rfl, hT, ⟨c', t1, hc1, rfl⟩, hd1, hu1, hTup⟩ := hY
    obtain ⟨y1, y2, y3, y4, ⟨y5, _⟩, ⟨y6, _⟩⟩ := st'
    have fr : H T = none := I.hok.fresh hT
    obtain ⟨u2, hu2, ru2⟩ := rv.get hy
    obtain ⟨u3, hu3, ru3⟩ := rv2.get hz
    have ed : d = u2 := by
      have hd2 : its[i]? = some d := by simpa using hd1
      rw [hu2] at hd2
      exact (Option.some.inj hd2).symm
    have eu : u = u3 := by
      have hd2 : its2[i]? = some u := by simpa using hu1
      rw [hu3] at hd2
      exact (Option.some.inj hd2).symm
    rw [ed, eu] at hTup
    refine ⟨.ref T, upd H T (.tup [.str ⟨#[c']⟩, y, z]), I.turnedNew (t' := tk) (ch := [N + 5, N + 4, N, N + 1, N + 2]) hk (fun e he => hf e ?_) hT ?_, rfl, ⟨T, c', y, z, rfl, fr, rfl, hc1, fun l hl2 => by rw [I.tuple_inj hl2 hq]; exact hy, fun l hl2 => by rw [I.tuple_inj hl2 hq2]; exact hz⟩, ⟨y1, y2, y3, y4, y5, y6⟩, fun e he => ?_⟩
    · rcases (by simpa using he : e = N + 5 ∨ e = N + 4 ∨ e = N ∨ e = N + 1 ∨ e = N + 2) with q | q | q | q | q <;> simp [q]
    · exact ⟨by show 3 ≤ sizeLine; decide, _, .cons ⟨_, rfl⟩ (.cons ru2 (.cons ru3 .nil)), hTup⟩
    · have hlt : e < s.heap.objs.size := by
        obtain ⟨z1, z2, ⟨_, _, _, z3⟩, ⟨o4, z4, _⟩, ⟨o5, z5, _⟩, ⟨o6, z6, _⟩⟩ := st
        rcases (by simpa using he : e = N + 5 ∨ e = N + 3 ∨ e = N + 4 ∨ e = N ∨ e = N + 1 ∨ e = N + 2) with q | q | q | q | q | q
        · rw [q]; exact Heap.lt_size z1
        · rw [q]; exact Heap.lt_size z2
        · rw [q]; exact Heap.lt_size z3
        · rw [q]; exact Heap.lt_size z4
        · rw [q]; exact Heap.lt_size z5
        · rw [q]; exact Heap.lt_size z6
      rw [upd_ne (Nat.ne_of_lt (Nat.lt_of_lt_of_le hlt hT))]
      exact (hf e he).1
  done := by
    intro X hP hw hK hc i pins s σ H E I hf st hg
    subst hP hw hK
    have hh : X.A.handled = none := I.ok.hd hc
    obtain ⟨ys, zs, hq, hq2, hi⟩ := hg
    obtain ⟨its, rv, p, _⟩ := I.tuple hq
    obtain ⟨its2, rv2, p2, _⟩ := I.tuple hq2
    have hne : b ≠ N + 1 := Nat.ne_of_lt (Nat.lt_succ_of_lt hb)
    have hne2 : e ≠ N + 2 := Nat.ne_of_lt (Nat.lt_succ_of_lt (Nat.lt_succ_of_lt he))
    have D1 := Draws.text (prog := X.prog) (w := X.w) (A := X.A.in1) hh N x t
    have D2 := Draws.tuple (prog := X.prog) (w := X.w) (A := X.A.in1) hh (N + 1) b hne its.toArray
    have D3 := Draws.tuple (prog := X.prog) (w := X.w) (A := X.A.in1) hh (N + 2) e hne2 its2.toArray
    have S : ZipSep3 (N + 5) (N + 3) (N + 4) N (N + 1) (N + 2) [N] [N + 1, b] [N + 2, e] := zip_sep3 (fp1 := []) (fp2 := [b]) (fp3 := [e]) (fun _ h => nomatch h) (fun c h => by rw [List.mem_singleton.mp h]; exact hb) (fun c h => by rw [List.mem_singleton.mp h]; exact he)
    have G := GoesN.zip3 (elts := elts) (x1 := kk) (pos := tp) S D1 D2 D3
    have hl := rv.length
    have hl2 := rv2.length
    have hi : i = min (min x.cps.size its.toArray.size) its2.toArray.size := by
      have e1 : its.toArray.size = its.length := List.size_toArray
      have e2 : its2.toArray.size = its2.length := List.size_toArray
      omega
    rw [hi] at st
    obtain ⟨z1, z2, z3, z4, z5, z6⟩ := st
    refine G.stops s _ E ⟨z1, z2, z3, z4, ⟨z5, p⟩, ⟨z6, p2⟩⟩ fun h' tk hk _ => ?_
    refine I.turnedL (t' := tk) (ch := [N + 5, N + 4, N, N + 1, N + 2]) hk fun e he => hf e ?_
    rcases (by simpa using he : e = N + 5 ∨ e = N + 4 ∨ e = N ∨ e = N + 1 ∨ e = N + 2) with q | q | q | q | q <;> simp [q]
  self := fun A i s Q E st h => wpAny_pyIter_zip st.1 h
def iZipSTT (K : PySem.W.Frag) (ta : TA) : TI := fun σ H R => ta σ H fun vs H1 => ∃ x b e ys zs, vs = [.str x, .ref b, .ref e] ∧ SqT K H1 b ys ∧ SqT K H1 e zs ∧ R (PairsSTT K x b e) H1
theorem vals3 {a b c : V} {us : List Value} (h : Vals [a, b, c] us) : ∃ x y z, us = [x, y, z] ∧ RelV a x ∧ RelV b y ∧ RelV c z := by
  cases h with
  | cons h1 h => cases h with
    | cons h2 h => cases h with
      | cons h3 h => cases h with
        | nil => exact ⟨_, _, _, rfl, h1, h2, h3⟩
theorem pi_zipSTT {X : Cx} {e e2 e3 : Expr} {ta : TA} {p pos tpos : Pos} {elts : List Expr} {kk : Nat} (hg : Gl X "zip") (hm : X.mg "zip" = none) (ha : PA X [e, e2, e3] ta)
    (hs : starEach [e, e2, e3] X.env = (false, eval e X.env) :: starEach [e2, e3] X.env := by rfl) (hpl : (backTo pos (starEach [e2, e3] X.env)).any (·.1) = false := by rfl) :
    PI X (.Tuple elts kk tpos) (.Call (.Name "zip" p) [e, e2, e3] [] pos) (iZipSTT X.K ta) := by
  refine ⟨fun pins s σ H R I h => Call_ (ld_blt I hg hm boot_zip (callWith_type1 (thn (ha.run pos pins s σ H _ I h) fun us s1 q => ?_) hs hpl))⟩
  obtain ⟨vs, H1, I1, rel, x, b, e, ys, zs, rfl, hq, hq2, q⟩ := q
  obtain ⟨u1, u2, u3, rfl, ⟨t1, rfl⟩, r2, r3⟩ := vals3 rel
  obtain rfl : u2 = Value.ref b := r2
  obtain rfl : u3 = Value.ref e := r3
  obtain ⟨its, rv, p, _⟩ := I1.tuple hq
  obtain ⟨its2, rv2, p2, _⟩ := I1.tuple hq2
  have hb : b < s1.heap.objs.size := by
    obtain ⟨o, ho, _⟩ := id p
    exact Heap.lt_size ho
  have he : e < s1.heap.objs.size := by
    obtain ⟨o, ho, _⟩ := id p2
    exact Heap.lt_size ho
  refine zip_begins3 (begins_text x t1) (begins_tuple b its.toArray) (begins_tuple e its2.toArray) trivial p p2 fun h' z1 z2 z3 z4 z5 z6 hsz hk => wpAny_pyIter_zip z1 ?_
  refine ⟨_, _, _, _, H1, rfl, I1.kept (t' := s1.toks) hk, turnZipSTT (N := s1.heap.objs.size) x t1 hb he, ⟨z1, z2, ⟨_, _, _, z3⟩, ⟨_, z4, rfl, rfl⟩, ⟨_, z5, rfl, rfl⟩, ⟨_, z6, rfl, rfl⟩⟩, fun c hc => ?_, q⟩
  have hle : s1.heap.objs.size ≤ c := by
    rcases (by simpa using hc : c = s1.heap.objs.size + 5 ∨ c = s1.heap.objs.size + 3 ∨ c = s1.heap.objs.size + 4 ∨ c = s1.heap.objs.size ∨ c = s1.heap.objs.size + 1 ∨ c = s1.heap.objs.size + 2) with e | e | e | e | e | e <;> rw [e] <;> first | exact Nat.le_add_right _ _ | exact Nat.le_refl _
  exact I1.fpOk hle (I1.hok.fresh hle)
/-- the walk -/
theorem walk_zipSTT {K : PySem.W.Frag} {x : Str} {b e : Addr} {ys zs : List V} (hl : ys.length = x.cps.size) (hl2 : zs.length = x.cps.size) : Walk (PairsSTT K x b e) x.cps.size (fun H => SqT K H b ys ∧ SqT K H e zs) (fun i H v H' => ∃ (T : Addr) (c : Nat) (y z : V), v = .ref T ∧ H T = none ∧ H' = upd H T (.tup [.str ⟨#[c]⟩, y, z]) ∧ x.cps[i]? = some c ∧ ys[i]? = some y ∧ zs[i]? = some z) :=
  ⟨fun i H hi h => ⟨ys, zs, ys[i]'(by omega), zs[i]'(by omega), x.cps[i], h.1, h.2, Array.getElem?_eq_getElem hi, List.getElem?_eq_getElem (by omega), List.getElem?_eq_getElem (by omega)⟩, fun H h => ⟨ys, zs, h.1, h.2, by omega⟩,
    fun i H v H' hi h ⟨T, c, y, z, h1, h2, h3, h4, h5, h6⟩ => ⟨T, c, y, z, h1, h2, h3, h4, h5 ys h.1, h6 zs h.2⟩⟩
end SWL
set_option Elab.async false
set_option linter.all false
set_option maxRecDepth 100000
set_option maxHeartbeats 4000000
namespace SWL
open PySem PySem.Spec PyProof.Rows L2 LamX
/-! len(x) by an own __len__ -/
section
variable {X : Cx}
theorem cr_lenO {k : Nat} {f C : Addr} {fd : FuncData} {p : Str} {sp : Sp} (hm : Meth X.K C "__len__" f) (F : FnOk X.prog X.w X.K X.mg X.base CX0 k f fd [p] sp) (hb : Binds X.K fd [p] []) (hr : Room (k + 1) X.A) :
    CallR X (.builtin "len") (fun xs H Q => ∃ a dx fs, xs = [.ref a] ∧ H a = some (.ins C dx fs) ∧ sp [.ref a] H (fun v H' => ∃ n : Nat, v = .int ((n : Nat) : Int) ∧ n < 1000000 ∧ Q v H') E0) := by
  intro pins s σ H xs us Q I r h
  obtain ⟨a, dx, fs, rfl, ea, q⟩ := h
  obtain ⟨u, rfl, ru⟩ := vals1 r
  obtain rfl : u = Value.ref a := ru
  obtain ⟨mA, O, _⟩ := ins_get I.hok ea
  have sp1 : PySem.W.Looks (model X.prog X.w) s.heap (specialOf (.ref a) "__len__") (some (.ref f)) := (NwA.type_at O.obj rfl).andThen (PySem.W.looks_findIn I.kIn hm.at_)
  refine Calls.call_function_entry kind_len plain_len entry_len (args_len1 _) ?_
  unfold Builtin.«len»
  refine wpAny_bind (m := oneArg "len" _) (wpAny_pure ?_)
  refine wpAny_bind (m := callSpecial? (.ref a) (PySem.Str.ofString "__len__")) (wpAny_bind (sp1.here (wpAny_holding (wpAny_bind ((PySem.W.bind_fn I.kIn _ (beq_iff_eq.mp hm.fn)).here (wpAny_bind (callIn (x := V.ref a) (u := Value.ref a) F hb hr.in1 rfl I rfl q fun v w H' s' J rv hq _ => wpAny_pure ?_)))))))
  obtain ⟨n, en, hn, q2⟩ := hq
  subst en
  obtain ⟨t, rfl⟩ : ∃ t, w = .int ((n : Nat) : Int) t := rv
  refine wpAny_bind (wpAny_holding (wpAny_pure ?_))
  refine wpAny_bind (wpAny_letGo ?_)
  show wpAny _ _ (if ((n : Nat) : Int) < 0 then _ else _) _ _ _
  rw [if_neg (by omega)]
  show wpAny _ _ (if ((n : Nat) : Int) ≥ 2 ^ 63 then _ else _) _ _ _
  rw [if_neg (by omega)]
  exact wpAny_bind (wpAny_mkInt (wpAny_pure ⟨_, rfl, .int n, H', J.tok _, ⟨_, rfl⟩, q2⟩))
end
end SWL
set_option Elab.async false
set_option linter.all false
set_option maxRecDepth 100000
set_option maxHeartbeats 4000000
namespace SWL
open PySem PySem.Spec PyProof.Rows L2 LamX
def topS (i : Nat) : Stmt := PySem.Challenge.pw_swinglogic_k38_whole_told_by_turns_or_no.main.body.getD i (.Pass ⟨0, 0, 0, 0⟩)
abbrev sIsNum : Stmt := topS 13
abbrev sIsL : Stmt := topS 14
abbrev sNeedL : Stmt := topS 15
abbrev sIsW : Stmt := topS 16
abbrev sNeedW : Stmt := topS 17
abbrev sIsStand : Stmt := topS 20
abbrev sMachine : Stmt := topS 21
abbrev sGone : Stmt := topS 22
abbrev sClassed : Stmt := topS 23
abbrev sLeastRows : Stmt := topS 24
abbrev sBuilt : Stmt := topS 25
abbrev sLeastM : Stmt := topS 26
abbrev sAlgebra : Stmt := topS 29
abbrev sMadeOf : Stmt := topS 31
abbrev sUnturned : Stmt := topS 32
abbrev sIsTurns : Stmt := topS 33
abbrev sBegun : Stmt := topS 35
abbrev sMixed : Stmt := topS 36
abbrev sDraw : Stmt := topS 37
abbrev sPick : Stmt := topS 38
abbrev sPlain : Stmt := topS 39
abbrev sIs : Stmt := topS 40
abbrev sSomeW : Stmt := topS 41
abbrev sSomeRows : Stmt := topS 42
abbrev sSomeL : Stmt := topS 43
abbrev sMonoid : Stmt := topS 44
abbrev sLawBeh : Stmt := topS 45
abbrev sStill : Stmt := topS 46
abbrev sIsTurned : Stmt := topS 47
abbrev sLaw : Stmt := topS 48
/-- the module's names: what is built in, and the constants -/
structure Blt (mg : Str → Option Value) : Prop where
  isi : mg "isinstance" = none
  str : mg "str" = none
  int : mg "int" = none
  list : mg "list" = none
  tuple : mg "tuple" = none
  dict : mg "dict" = none
  len : mg "len" = none
  all : mg "all" = none
  any : mg "any" = none
  zip : mg "zip" = none
  sorted : mg "sorted" = none
  abs : mg "abs" = none
  range : mg "range" = none
  min : mg "min" = none
  repr : mg "repr" = none
  bool : mg "bool" = none
  enum : mg "enumerate" = none
  max : mg "max" = none
  small : ∃ t, mg "SMALL" = some (.str "abcdefghijklmnopqrstuvwxyz" t)
  mostL : ∃ t, mg "MOST_LETTERS" = some (.int 4 t)
  mostS : ∃ t, mg "MOST_STANDS" = some (.int 60 t)
  mostE : ∃ t, mg "MOST_ELEMENTS" = some (.int 200 t)
def NotStr (K : PySem.W.Frag) (H : Hp) (x : V) : Prop := ∃ t : String, TyX K H x (.type t) ∧ kitB t "str" = some false
def smallS : Str := "abcdefghijklmnopqrstuvwxyz"
def sign0 : V → Nat
  | .str z => z.cps.toList.headD 0
  | _ => 0
def inSm (v : V) : V := .bl (decide (sign0 v ∈ smallS.cps.toList))
theorem lt_one (c d : Nat) : decide (([c] : List Nat) < [d]) = decide (c < d) := by
  refine decide_eq_decide.mpr ?_
  constructor
  · intro h
    cases h with
    | rel h => exact h
    | cons h => cases h
  · intro h
    exact .rel h
def rises : List Nat → Bool
  | a :: b :: r => decide (a < b) && rises (b :: r)
  | _ => true
theorem rises_zip : ∀ l : List Nat, ((l.zip (l.drop 1)).map fun p => decide (p.1 < p.2)).all id = rises l
  | [] => rfl
  | [a] => rfl
  | a :: b :: r => by
    have ih := rises_zip (b :: r)
    show (decide (a < b) && (((b :: r).zip ((b :: r).drop 1)).map fun p => decide (p.1 < p.2)).all id) = (decide (a < b) && rises (b :: r))
    rw [ih]
theorem cut_len (z : Str) : z.cps.toList.length = z.length := Array.length_toList
theorem cut1 (z : Str) : (cutS z (some 1) none).cps.toList = z.cps.toList.drop 1 := by
  have h1 : HT.sIx z.length 0 (some 1) = min 1 z.length := HT.sIx_nat _ _ 1
  have h2 : HT.sIx z.length z.length none = z.length := rfl
  unfold cutS
  rw [h1, h2]
  show (z.cps.toList.drop (min 1 z.length)).take (z.length - min 1 z.length) = _
  have e : z.cps.toList.drop (min 1 z.length) = z.cps.toList.drop 1 := by
    by_cases h : 1 ≤ z.length
    · rw [Nat.min_eq_left h]
    · have : z.length = 0 := by omega
      have hz : z.cps.toList = [] := List.length_eq_zero_iff.mp (by rw [cut_len]; exact this)
      rw [hz]
      simp
  rw [e]
  refine List.take_of_length_le ?_
  rw [List.length_drop, cut_len]
  omega
def okLetters (z : Str) : Bool := decide (1 ≤ z.length ∧ z.length ≤ 4) && (z.cps.toList.all (fun c => decide (c ∈ smallS.cps.toList)) && rises z.cps.toList)
def spIsL (K : PySem.W.Frag) : Sp := fun vs H Q _ => ∃ x, vs = [x] ∧ ((∃ z, x = .str z ∧ z.length ≤ sizeLine ∧ ∀ H', Grows H H' → Q (.bl (okLetters z)) H') ∨ (NotStr K H x ∧ Q (.bl false) H))
theorem if_neg_of {c : Prop} [Decidable c] {A B : Prop} (hc : ¬ c) (h : B) : if c then A else B := by
  rw [if_neg hc]
  exact h
theorem if_pos_of {c : Prop} [Decidable c] {A B : Prop} (hc : c) (h : A) : if c then A else B := by
  rw [if_pos hc]
  exact h
section
variable {P : Program} {w : World} {K : PySem.W.Frag} {mg : Str → Option Value} {base : Heap}
theorem scIsL : FnScope ["thing", "sign", "one", "other"] ["thing"] (defScope sIsL) := ⟨rfl, rfl, rfl, by decide +kernel, rfl, by decide +kernel, by decide +kernel⟩
theorem ok_isL {f : Addr} {fd : FuncData} (F : L2.Fun K "is_letters" "is_letters" sIsL f fd) (B : Blt mg) : FnOk P w K mg base CX0 2 f fd ["thing"] (spIsL K) := by
  refine F.ok scIsL (fun vs H Q E h => ?_) (fun cdv A outer s H vs Q E hr h => ⟨_,
    pss_cons (ps_if (pw_or (pt_not (pt_truth (pe_callB call_isi (by rfl) B.isi (by decide +kernel) (pa_cons (pv 0) (pa_cons (pe_bltn (u := .type "str") (v := .ty "str") (by rfl) B.str (by decide +kernel) rfl) pa_nil))) (by intro _; rfl)))
      (pw_or1 (pt_not (pt_chain op_le op_le pe_int (pe_callB call_len_str (by rfl) B.len PySem.boot_len (pa_cons (pv 0) pa_nil)) (pe_glob (v := .int 4) (by rfl) B.mostL.choose_spec ⟨_, rfl⟩))))).pt (pss_one (ps_ret pe_bl)) pss_nil)
    (pss_one (ps_ret (pe_and
      (pe_callB (cr_all rfl) (by rfl) B.all (by decide +kernel) (pa_cons (pe_lc (own := [("sign", 1)]) (g := gName 1) (tt := tYes) rfl scIsL.nd (pi_str (pv 0)) (blkOk_by (N := ["thing", "sign", "one", "other"]) (sc := defScope sIsL) (by decide +kernel)) (fun _ _ _ _ _ => pg_name (i := 1) scIsL.nd rfl (Or.inl rfl)) (fun _ _ _ _ _ => pts_nil)
        (fun _ _ _ _ _ => pe_cmpR op_inS (pv 1) (pe_glob (v := .str smallS) (by rfl) B.small.choose_spec ⟨_, rfl⟩) rfl)) pa_nil))
      (pe_one (pe_callB (cr_all rfl) (by rfl) B.all (by decide +kernel) (pa_cons (pe_lc (own := [("one", 2), ("other", 3)]) (g := gTup K 2 (gCons (gName 2) (gCons (gName 3) gNil))) (tt := tYes) rfl scIsL.nd (pi_zipS (by rfl) B.zip (pa_cons (pv 0) (pa_cons (pe_slice sl_str (pv 0) (po_some pe_int) po_none) pa_nil))) (blkOk_by (N := ["thing", "sign", "one", "other"]) (sc := defScope sIsL) (by decide +kernel)) (fun _ _ _ _ _ => pg_tup rfl (pgs_cons (pg_name (i := 2) scIsL.nd rfl (Or.inl rfl)) (pgs_cons (pg_name (i := 3) scIsL.nd rfl (Or.inl rfl)) pgs_nil))) (fun _ _ _ _ _ => pts_nil)
        (fun _ _ _ _ _ => pe_cmpR op_lt_str (pv 2) (pv 3) rfl)) pa_nil)))))), ?_⟩)
  · obtain ⟨x, rfl, _⟩ := h
    rfl
  · obtain ⟨x, rfl, h⟩ := h
    rcases h with ⟨z, rfl, hz, q⟩ | ⟨⟨t, ty, hk⟩, q⟩
    · refine ⟨_, rfl, .str z, .ty "str", .type "str", .type "str", true, rfl, .ty "str", .base (.str z), kit_ty (by decide +kernel), true, rfl, ?_⟩
      refine if_neg_of (by decide) ?_
      refine ⟨_, rfl, z, rfl, hz, _, _, rfl, rfl, decide ((1 : Int) ≤ z.length), rfl, ?_⟩
      by_cases c1 : (1 : Int) ≤ z.length
      · refine if_pos_of (decide_eq_true c1) ⟨_, _, rfl, rfl, decide ((z.length : Int) ≤ 4), rfl, ?_⟩
        by_cases c2 : (z.length : Int) ≤ 4
        · refine if_neg_of (by rw [decide_eq_true c2]; decide) ?_
          refine ⟨_, rfl, z, rfl, fun D nD => comp (xs := signsV z) (walk_signs z) (fun _ => true) inSm nD (fun _ _ => trivial) (by rw [signs_len]; exact hz) (fun x H k _ g hk => hk H (Grows.refl H)) (fun x H Q hx _ g hq => ?_) (fun H2 g2 hD => ?_)⟩
          · obtain ⟨c, hc, rfl⟩ := signs_mem hx
            exact ⟨_, rfl, c, smallS, rfl, rfl, hq _ (Grows.refl _)⟩
          · rw [filter_yes] at hD
            refine ⟨D, z.cps.toList.map fun c => decide (c ∈ smallS.cps.toList), rfl, .inl (.inl (hD.trans ?_)), _, rfl, ?_⟩
            · unfold signsV
              rw [List.map_map, List.map_map]
              rfl
            · have e1 : (z.cps.toList.map fun c => decide (c ∈ smallS.cps.toList)).all id = z.cps.toList.all fun c => decide (c ∈ smallS.cps.toList) := by rw [List.all_map]; rfl
              rw [e1]
              have el : decide (1 ≤ z.length ∧ z.length ≤ 4) = true := decide_eq_true (by omega)
              cases e2 : z.cps.toList.all fun c => decide (c ∈ smallS.cps.toList) with
              | false =>
                refine if_neg_of (by decide) ?_
                have e3 : okLetters z = false := by unfold okLetters; rw [el, e2]; rfl
                rw [e3] at q
                exact q H2 g2
              | true =>
                refine if_pos_of rfl ?_
                refine ⟨_, rfl, _, rfl, 1, rfl, z, rfl, hz, z, _, rfl, fun D2 nD2 => compZ (fun p => V.bl (decide (p.1 < p.2))) nD2 (by decide) hz (fun c d H Q _ _ hq => ?_) fun H3 g3 hD3 => ?_⟩
                · refine ⟨_, rfl, _, rfl, _, _, rfl, rfl, ?_⟩
                  rw [show decide ((⟨#[c]⟩ : Str).cps.toList < (⟨#[d]⟩ : Str).cps.toList) = decide (c < d) from lt_one c d]
                  exact hq H (Grows.refl H)
                · rw [cut1] at hD3
                  refine ⟨D2, (z.cps.toList.zip (z.cps.toList.drop 1)).map fun p => decide (p.1 < p.2), rfl, .inl (.inl (hD3.trans ?_)), ?_⟩
                  · rw [List.map_map]
                    rfl
                  · rw [rises_zip]
                    have e3 : okLetters z = rises z.cps.toList := by unfold okLetters; rw [el, e2, Bool.true_and, Bool.true_and]
                    rw [e3] at q
                    exact q H3 (g2.trans g3)
        · refine if_pos_of (by rw [decide_eq_false c2]; decide) ?_
          have e : okLetters z = false := by
            unfold okLetters
            rw [decide_eq_false (by omega)]
            rfl
          rw [e] at q
          exact q H (Grows.refl H)
      · refine if_neg_of (by rw [decide_eq_false c1]; decide) ⟨false, rfl, if_pos_of (by decide) ?_⟩
        have e : okLetters z = false := by
          unfold okLetters
          rw [decide_eq_false (by omega)]
          rfl
        rw [e] at q
        exact q H (Grows.refl H)
    · refine ⟨_, rfl, x, .ty "str", .type t, .type "str", false, rfl, .ty "str", ty, kit_ty hk, false, rfl, ?_⟩
      exact q
end
end SWL
set_option Elab.async false
set_option linter.all false
set_option maxRecDepth 100000
set_option maxHeartbeats 4000000
namespace SWL
open PySem PySem.Spec PyProof.Rows L2 LamX
abbrev veB : List Value := [.type "ValueError", .type "Exception", .type "BaseException", .type "object"]
/-- an exception class of the text -/
structure ErrC (K : PySem.W.Frag) (mg : Str → Option Value) (x : Str) (C CS : Addr) : Prop where
  gC : mg x = some (.ref C)
  xC : PySem.W.excIn K C veB "ValueError.__new__" = true
  kC : PySem.W.keepIn K (.ref C) = true
  bC : PySem.W.subIn K (.ref C) (.type "BaseException") = some true
  tC : PySem.W.typeIn K (.ref C) = some (.type "type")
  eC : PySem.W.exmOne K (.ref C) (.ref CS) = some true
/-- a def of the text, by its name -/
structure Def (mg : Str → Option Value) (K : PySem.W.Frag) (x : Str) (f : Addr) (fd : FuncData) (ps : List Str) : Prop where
  g : mg x = some (.ref f)
  k : PySem.W.keepIn K (.ref f) = true
  b : L2.Binds K fd ps []
def spNeedL (K : PySem.W.Frag) (CN : Addr) : Sp := fun vs H Q E => ∃ x, vs = [x] ∧ ((∃ z, x = .str z ∧ z.length ≤ sizeLine ∧ ∀ H', Grows H H' → (okLetters z = true → Q .non H') ∧ (okLetters z = false → E (.ref CN) none H')) ∨ (NotStr K H x ∧ E (.ref CN) none H))
def okWord (ls z : Str) (m : Int) : Bool := decide ((z.length : Int) ≤ m) && z.cps.toList.all fun c => decide (c ∈ ls.cps.toList)
def inLs (ls : Str) (v : V) : V := .bl (decide (sign0 v ∈ ls.cps.toList))
def spIsW (K : PySem.W.Frag) : Sp := fun vs H Q _ => ∃ ls x m, vs = [.str ls, x, .int m] ∧ ((∃ z, x = .str z ∧ z.length ≤ sizeLine ∧ ∀ H', Grows H H' → Q (.bl (okWord ls z m)) H') ∨ (NotStr K H x ∧ Q (.bl false) H))
def spNeedW (K : PySem.W.Frag) (CW : Addr) : Sp := fun vs H Q E => ∃ ls x m, vs = [.str ls, x, .int m] ∧ ((∃ z, x = .str z ∧ z.length ≤ sizeLine ∧ ∀ H', Grows H H' → (okWord ls z m = true → Q .non H') ∧ (okWord ls z m = false → E (.ref CW) none H')) ∨ (NotStr K H x ∧ E (.ref CW) none H))
theorem passE0 {P : Program} {w : World} {X : Cx} (hP : X.prog = P) (hw : X.w = w) : Passes (L2.CX P w) X E0 := fun pins σ H s e s' I c => by
  obtain ⟨_, _, _, _, _, _, _, _, _, _, _, _, z⟩ := c
  exact z.elim
theorem pi_or {X : Cx} {tg it : Expr} {w1 w2 : TI} (h1 : PI X tg it w1) (h2 : PI X tg it w2) : PI X tg it (fun σ H R => w1 σ H R ∨ w2 σ H R) :=
  ⟨fun pins s σ H R I h => h.elim (h1.run pins s σ H R I) (h2.run pins s σ H R I)⟩
theorem mem_take_len {α : Type} {l : List α} {n : Nat} : (l.take n).length ≤ l.length := by rw [List.length_take]; omega
/-- a def whose last parameter, of a default, is 20000 -/
structure DefW (mg : Str → Option Value) (K : PySem.W.Frag) (x : Str) (f : Addr) (fd : FuncData) (ps : List Str) : Prop where
  g : mg x = some (.ref f)
  k : PySem.W.keepIn K (.ref f) = true
  b : ∃ ds, Vals [V.int 20000] ds ∧ L2.Binds K fd ps ds
theorem tyx_grows {K : PySem.W.Frag} {H H' : Hp} (g : Grows H H') {x : V} {t : Value} (h : TyX K H x t) : TyX K H' x t := by
  cases h with
  | base b =>
    cases b with
    | non => exact .base .non
    | bl y => exact .base (.bl y)
    | int i => exact .base (.int i)
    | str z => exact .base (.str z)
    | flt z => exact .base (.flt z)
    | lst e => exact .base (.lst (g _ _ e))
    | frz e => exact .base (.frz (g _ _ e))
    | tup e => exact .base (.tup (g _ _ e))
    | dK e => exact .base (.dK (g _ _ e))
    | dT e => exact .base (.dT (g _ _ e))
    | ins e cl ha hn ht hm => exact .base (.ins (g _ _ e) cl ha hn ht hm)
  | byt b => exact .byt b
  | set e => exact .set (g _ _ e)
  | kList e c => exact .kList e c
  | kTuple e c => exact .kTuple e c
  | kDict e c => exact .kDict e c
  | fTuple e => exact .fTuple (g _ _ e)
  | fDict e => exact .fDict (g _ _ e)
theorem NotStr.grows {K : PySem.W.Frag} {H H' : Hp} (g : Grows H H') {x : V} (h : NotStr K H x) : NotStr K H' x := by
  obtain ⟨t, h1, h2⟩ := h
  exact ⟨t, tyx_grows g h1, h2⟩
theorem ty_list {K : PySem.W.Frag} {H : Hp} {a : Addr} {xs : List V} (h : SqL K H a xs) : TyX K H (.ref a) (.type "list") := by
  rcases h with (h | ⟨o, h⟩) | ⟨o, its, n, h1, h2, _⟩
  · exact .base (.lst h)
  · exact .base (.frz h)
  · exact .kList h1 h2
theorem ty_tuple {K : PySem.W.Frag} {H : Hp} {a : Addr} {xs : List V} (h : SqT K H a xs) : TyX K H (.ref a) (.type "tuple") := by
  rcases h with (h | ⟨o, h⟩) | ⟨o, its, n, h1, h2, _⟩
  · exact .base (.tup h)
  · exact .fTuple h
  · exact .kTuple h1 h2
theorem ty_sq {K : PySem.W.Frag} {H : Hp} {a : Addr} {xs : List V} (h : Sq K H a xs) : ∃ t : String, TyX K H (.ref a) (.type t) ∧ PySem.W.kitAny K (.type t) [.type "list", .type "tuple"] = some true := by
  rcases h with h | h
  · exact ⟨"list", ty_list h, kitAny_cons (b := true) (kit_ty (by decide +kernel)) (fun z => by cases z) fun _ => rfl⟩
  · exact ⟨"tuple", ty_tuple h, kitAny_cons (b := false) (kit_ty (by decide +kernel)) (fun _ => kitAny_cons (b := true) (kit_ty (by decide +kernel)) (fun z => by cases z) fun _ => rfl) fun z => by cases z⟩
def NotSeq (K : PySem.W.Frag) (H : Hp) (x : V) : Prop := ∃ t : String, TyX K H x (.type t) ∧ kitB t "list" = some false ∧ kitB t "tuple" = some false
theorem NotSeq.grows {K : PySem.W.Frag} {H H' : Hp} (g : Grows H H') {x : V} (h : NotSeq K H x) : NotSeq K H' x := by
  obtain ⟨t, h1, h2⟩ := h
  exact ⟨t, tyx_grows g h1, h2⟩
theorem NotSeq.kit {K : PySem.W.Frag} {t : String} (h1 : kitB t "list" = some false) (h2 : kitB t "tuple" = some false) : PySem.W.kitAny K (.type t) [.type "list", .type "tuple"] = some false :=
  kitAny_cons (b := false) (kit_ty h1) (fun _ => kitAny_cons (b := false) (kit_ty h2) (fun _ => kitAny_nil) fun z => by cases z) fun z => by cases z
def BadL (K : PySem.W.Frag) (H : Hp) (x : V) : Prop := NotStr K H x ∨ ∃ z, x = .str z ∧ z.length ≤ sizeLine ∧ okLetters z = false
section
variable {P : Program} {w : World} {K : PySem.W.Frag} {mg : Str → Option Value} {base : Heap}
theorem scNeedL : FnScope ["thing"] ["thing"] (defScope sNeedL) := ⟨rfl, rfl, rfl, by decide +kernel, rfl, by decide +kernel, by decide +kernel⟩
theorem ok_needL {f f1 CN CS : Addr} {fd fd1 : FuncData} (F : L2.Fun K "need_letters" "need_letters" sNeedL f fd) (G : FnOk P w K mg base CX0 2 f1 fd1 ["thing"] (spIsL K)) (D : Def mg K "is_letters" f1 fd1 ["thing"]) (EN : ErrC K mg "NoLetters" CN CS) :
    FnOk P w K mg base (L2.CX P w) 3 f fd ["thing"] (spNeedL K CN) := by
  refine F.okX scNeedL (fun vs H Q E h => ?_) (fun cdv A outer s H vs Q E hr h => ⟨_,
    pss_one (ps_if (pt_not (pt_truth (pe_call G hr (by rfl) D.g D.k D.b .nil pass0 (pa_cons (pv 0) pa_nil)) (by intro _; rfl)))
      (pss_one (ps_raise rfl (takes_of rfl rfl rfl rfl) (pmk_own PySem.F.excBase_ValueError EN.xC EN.gC EN.kC (raises_own EN.bC EN.tC) rfl))) pss_nil), ?_⟩)
  · obtain ⟨x, rfl, _⟩ := h
    rfl
  · obtain ⟨x, rfl, h⟩ := h
    refine ⟨_, rfl, x, rfl, ?_⟩
    rcases h with ⟨z, rfl, hz, q⟩ | ⟨n, q⟩
    · refine .inl ⟨z, rfl, hz, fun H' g => ?_⟩
      obtain ⟨q1, q2⟩ := q H' g
      cases e : okLetters z with
      | true => exact ⟨true, rfl, if_neg_of (by decide) (q1 e)⟩
      | false => exact ⟨false, rfl, if_pos_of (by decide) (q2 e)⟩
    · exact .inr ⟨n, false, rfl, if_pos_of (by decide) q⟩
theorem scIsW : FnScope ["letters", "thing", "most", "sign"] ["letters", "thing", "most"] (defScope sIsW) := ⟨rfl, rfl, rfl, by decide +kernel, rfl, by decide +kernel, by decide +kernel⟩
theorem ok_isW {f : Addr} {fd : FuncData} (F : L2.Fun K "is_word_to" "is_word_to" sIsW f fd) (B : Blt mg) : FnOk P w K mg base CX0 2 f fd ["letters", "thing", "most"] (spIsW K) := by
  refine F.ok scIsW (fun vs H Q E h => ?_) (fun cdv A outer s H vs Q E hr h => ⟨_,
    pss_one (ps_ret (pe_and (pe_callB call_isi (by rfl) B.isi (by decide +kernel) (pa_cons (pv 1) (pa_cons (pe_bltn (u := .type "str") (v := .ty "str") (by rfl) B.str (by decide +kernel) rfl) pa_nil)))
      (pe_and (pe_cmpR op_le (pe_callB call_len_str (by rfl) B.len PySem.boot_len (pa_cons (pv 1) pa_nil)) (pv 2) rfl)
      (pe_one (pe_callB (cr_all rfl) (by rfl) B.all (by decide +kernel) (pa_cons (pe_lc (own := [("sign", 3)]) (g := gName 3) (tt := tYes) rfl scIsW.nd (pi_str (pv 1)) (blkOk_by (N := ["letters", "thing", "most", "sign"]) (sc := defScope sIsW) (by decide +kernel)) (fun _ _ _ _ _ => pg_name (i := 3) scIsW.nd rfl (Or.inl rfl)) (fun _ _ _ _ _ => pts_nil)
        (fun _ _ _ _ _ => pe_cmpR op_inS (pv 3) (pv 0) rfl)) pa_nil)))))), ?_⟩)
  · obtain ⟨ls, x, m, rfl, _⟩ := h
    rfl
  · obtain ⟨ls, x, m, rfl, h⟩ := h
    rcases h with ⟨z, rfl, hz, q⟩ | ⟨⟨t, ty, hk⟩, q⟩
    · refine ⟨_, rfl, .str z, .ty "str", .type "str", .type "str", true, rfl, .ty "str", .base (.str z), kit_ty (by decide +kernel), true, rfl, if_pos_of rfl ?_⟩
      refine ⟨_, rfl, z, rfl, hz, _, rfl, _, _, rfl, rfl, decide ((z.length : Int) ≤ m), rfl, ?_⟩
      by_cases c1 : (z.length : Int) ≤ m
      · refine if_pos_of (decide_eq_true c1) ?_
        refine ⟨_, rfl, z, rfl, fun D nD => comp (xs := signsV z) (walk_signs z) (fun _ => true) (inLs ls) nD (fun _ _ => trivial) (by rw [signs_len]; exact hz) (fun x H k _ g hk => hk H (Grows.refl H)) (fun x H Q hx _ g hq => ?_) (fun H2 g2 hD => ?_)⟩
        · obtain ⟨c, hc, rfl⟩ := signs_mem hx
          exact ⟨_, rfl, _, rfl, c, ls, rfl, rfl, hq _ (Grows.refl _)⟩
        · rw [filter_yes] at hD
          refine ⟨D, z.cps.toList.map fun c => decide (c ∈ ls.cps.toList), rfl, .inl (.inl (hD.trans ?_)), ?_⟩
          · unfold signsV
            rw [List.map_map, List.map_map]
            rfl
          · have e1 : (z.cps.toList.map fun c => decide (c ∈ ls.cps.toList)).all id = okWord ls z m := by
              unfold okWord
              rw [decide_eq_true c1, List.all_map, Bool.true_and]
              rfl
            rw [e1]
            exact q H2 g2
      · refine if_neg_of (by rw [decide_eq_false c1]; decide) ?_
        have e : okWord ls z m = false := by
          unfold okWord
          rw [decide_eq_false c1]
          rfl
        rw [e] at q
        exact q H (Grows.refl H)
    · exact ⟨_, rfl, x, .ty "str", .type t, .type "str", false, rfl, .ty "str", ty, kit_ty hk, false, rfl, if_neg_of (by decide) q⟩
theorem scNeedW : FnScope ["letters", "thing", "most"] ["letters", "thing", "most"] (defScope sNeedW) := ⟨rfl, rfl, rfl, by decide +kernel, rfl, by decide +kernel, by decide +kernel⟩
theorem ok_needW {f f1 CW CS : Addr} {fd fd1 : FuncData} {kws : List (Str × V)} (F : FunD K "need_word" "need_word" (defArgs sNeedW) (defBody sNeedW) (defScope sNeedW) [] kws f fd) (G : FnOk P w K mg base CX0 2 f1 fd1 ["letters", "thing", "most"] (spIsW K)) (D : Def mg K "is_word_to" f1 fd1 ["letters", "thing", "most"]) (EN : ErrC K mg "NoWord" CW CS) :
    FnOk P w K mg base (L2.CX P w) 3 f fd ["letters", "thing", "most"] (spNeedW K CW) := by
  refine F.ok (CX := L2.CX P w) scNeedW (fun vs H Q E h => ?_) (fun cdv A outer s H vs Q E hr h => ⟨_,
    pss_one (ps_if (pt_not (pt_truth (pe_call G hr (by rfl) D.g D.k D.b .nil pass0 (pa_cons (pv 0) (pa_cons (pv 1) (pa_cons (pv 2) pa_nil)))) (by intro _; rfl)))
      (pss_one (ps_raise rfl (takes_of rfl rfl rfl rfl) (pmk_own PySem.F.excBase_ValueError EN.xC EN.gC EN.kC (raises_own EN.bC EN.tC) rfl))) pss_nil), ?_⟩)
  · obtain ⟨ls, x, m, rfl, _⟩ := h
    rfl
  · obtain ⟨ls, x, m, rfl, h⟩ := h
    refine ⟨_, rfl, _, rfl, _, rfl, ls, x, m, rfl, ?_⟩
    rcases h with ⟨z, rfl, hz, q⟩ | ⟨n, q⟩
    · refine .inl ⟨z, rfl, hz, fun H' g => ?_⟩
      obtain ⟨q1, q2⟩ := q H' g
      cases e : okWord ls z m with
      | true => exact ⟨true, rfl, if_neg_of (by decide) (q1 e)⟩
      | false => exact ⟨false, rfl, if_pos_of (by decide) (q2 e)⟩
    · exact .inr ⟨n, false, rfl, if_pos_of (by decide) q⟩
end
end SWL
set_option Elab.async false
set_option linter.all false
set_option maxRecDepth 100000
set_option maxHeartbeats 4000000
namespace SWL
open PySem PySem.Spec PyProof.Rows L2 LamX
def stD (g c : Addr) (r t : Int) : List (Key × V) := [(.inr "great", .ref g), (.inr "cells", .ref c), (.inr "rest", .int r), (.inr "turn", .int t)]
theorem st_great (g c : Addr) (r t : Int) : valV (stD g c r t) (.inr "great") = some (.ref g) := rfl
theorem st_cells (g c : Addr) (r t : Int) : valV (stD g c r t) (.inr "cells") = some (.ref c) := rfl
theorem st_rest (g c : Addr) (r t : Int) : valV (stD g c r t) (.inr "rest") = some (.int r) := rfl
theorem st_turn (g c : Addr) (r t : Int) : valV (stD g c r t) (.inr "turn") = some (.int t) := rfl
theorem st_putR (g c : Addr) (r t r' : Int) : putK (stD g c r t) (.inr "rest") (.int r') = stD g c r' t := rfl
theorem st_putT (g c : Addr) (r t t' : Int) : putK (stD g c r t) (.inr "turn") (.int t') = stD g c r t' := rfl
theorem st_new (g c : Addr) : mergeK [] (stD g c 0 0) = stD g c 0 0 := rfl
/-- the state of the draws: at most n blends so far -/
structure SAt (H : Hp) (a g c : Addr) (cs : List Int) (n : Nat) : Prop where
  ex : ∃ (gs : List Int) (r t : Int), H a = some (.dK (stD g c r t)) ∧ H g = some (.lst (gs.map V.int)) ∧ H c = some (.lst (cs.map V.int)) ∧ g ≠ c ∧ (∀ z ∈ gs, 0 ≤ z) ∧ 0 ≤ r ∧ 0 ≤ t ∧ t ≤ n
/-- all stays but the state and its great cells -/
def But (H H' : Hp) (a g : Addr) : Prop := ∀ b o, H b = some o → b ≠ a → b ≠ g → H' b = some o
theorem But.refl (H : Hp) (a g : Addr) : But H H a g := fun _ _ h _ _ => h
theorem But.trans {H H1 H2 : Hp} {a g : Addr} (x : But H H1 a g) (y : But H1 H2 a g) : But H H2 a g := fun b o h h1 h2 => y b o (x b o h h1 h2) h1 h2
theorem But.of {H H' : Hp} {a g : Addr} (x : Grows H H') : But H H' a g := fun b o h _ _ => x b o h
theorem SAt.grows {H H' : Hp} {a g c : Addr} {cs : List Int} {n : Nat} (s : SAt H a g c cs n) (x : Grows H H') : SAt H' a g c cs n := by
  obtain ⟨gs, r, t, h1, h2, h3, h4⟩ := s.ex
  exact ⟨gs, r, t, x _ _ h1, x _ _ h2, x _ _ h3, h4⟩
theorem SAt.mono {H : Hp} {a g c : Addr} {cs : List Int} {n m : Nat} (s : SAt H a g c cs n) (h : n ≤ m) : SAt H a g c cs m := by
  obtain ⟨gs, r, t, h1, h2, h3, h4, h5, h6, h7, h8⟩ := s.ex
  exact ⟨gs, r, t, h1, h2, h3, h4, h5, h6, h7, by omega⟩
def spBegun (K : PySem.W.Frag) : Sp := fun vs H Q _ => ∃ (a : Addr) (ns : List Int), vs = [.ref a] ∧ SqL K H a (ns.map V.int) ∧ ns.length ≤ sizeLine ∧ ∀ H' p g c cs, Grows H H' → SAt H' p g c cs 0 → H p = none → H g = none → Q (.ref p) H'
def spMixed : Sp := fun vs H Q _ => ∃ (a g c : Addr) (cs : List Int) (n : Nat), vs = [.ref a] ∧ SAt H a g c cs n ∧ n ≤ 1000000 ∧ ∀ H' i, 0 ≤ i → SAt H' a g c cs (n + 1) → (∀ b o, H b = some o → b ≠ a → H' b = some o) → Q (.int i) H'
def spDraw : Sp := fun vs H Q _ => ∃ (a g c : Addr) (cs : List Int) (n : Nat) (m : Int), vs = [.ref a, .int m] ∧ SAt H a g c cs n ∧ n ≤ 1000000 ∧ 1 ≤ m ∧ m ≤ 1000000 ∧ ∀ H' i, 0 ≤ i → i < m → SAt H' a g c cs (n + 1) → But H H' a g → Q (.int i) H'
section
variable {P : Program} {w : World} {K : PySem.W.Frag} {mg : Str → Option Value} {base : Heap}
theorem scMixed : FnScope ["state", "turn", "found", "prime", "blend", "cell"] ["state"] (defScope sMixed) := ⟨rfl, rfl, rfl, by decide +kernel, rfl, by decide +kernel, by decide +kernel⟩
theorem ok_mixed {f : Addr} {fd : FuncData} (F : L2.Fun K "_law_mixed" "_law_mixed" sMixed f fd) (B : Blt mg) : FnOk P w K mg base CX0 1 f fd ["state"] spMixed := by
  refine F.ok scMixed (fun vs H Q E h => ?_) (fun cdv A outer s H vs Q E hr h => ⟨_,
    pss_cons (ps_par (i := 1) (j := 2) rfl scMixed.nd rfl rfl (by decide) rfl rfl (pa_cons (pe_op op_add (pe_dget (hu_of hr) (pv 0) pe_str (fun _ _ => rfl)) pe_int) (pa_cons pe_int pa_nil)) (by rfl))
    (pss_cons (ps_dput (hu_of hr) (pv 0) pe_str (pv 1) rfl)
    (pss_cons (ps_for PassesOwn.never rfl (pi_list (pe_lst (pa_cons pe_int (pa_cons pe_int (pa_cons pe_int (pa_cons pe_int pa_nil)))))) (pg_name (i := 3) scMixed.nd rfl (Or.inl rfl))
      (pss_cons (ps_set (i := 4) scMixed.nd rfl (Or.inl rfl) (pe_op op_add (pe_op op_mul pe_int (pv 1)) (pe_op op_fdivN (pv 3) pe_int)))
      (pss_cons (ps_for PassesOwn.never rfl (pi_list (pe_dget (hu_of hr) (pv 0) pe_str (fun _ _ => rfl))) (pg_name (i := 5) scMixed.nd rfl (Or.inl rfl))
        (pss_one (ps_set (i := 4) scMixed.nd rfl (Or.inl rfl) (pe_op op_modN (pe_callTy call_int1 (by rfl) B.int (by decide +kernel) (pa_cons (pe_op op_add (pe_op op_add (pe_op op_mul (pv 4) pe_int) (pv 5)) (pv 1)) pa_nil)) (pv 3)))))
      (pss_one (ps_set (i := 2) scMixed.nd rfl (Or.inl rfl) (pe_op op_add (pe_op op_mul (pv 2) pe_int) (pe_op op_modN (pe_callTy call_int1 (by rfl) B.int (by decide +kernel) (pa_cons (pe_op op_pow (pv 4) pe_int) pa_nil)) (pv 3))))))))
    (pss_one (ps_ret (pv 2))))), ?_⟩)
  · obtain ⟨a, g, c, cs, n, rfl, _⟩ := h
    rfl
  · obtain ⟨a, g, c, cs, n, rfl, hs, hn, q⟩ := h
    obtain ⟨gs, r, t, h1, h2, h3, h4, h5, h6, h7, h8⟩ := hs.ex
    have ag : g ≠ a := ne_of h2 h1 (by intro z; cases z)
    have ac : c ≠ a := ne_of h3 h1 (by intro z; cases z)
    refine ⟨_, rfl, a, _, rfl, (st_turn g c r t) ▸ DGet.k (k := .inr "turn") h1, t, 1, rfl, rfl, _, _, rfl, ?_⟩
    refine ⟨_, rfl, _, rfl, a, _, rfl, DPut.k (k := .inr "turn") h1 (by show 4 < sizeLine; decide), ?_⟩
    rw [st_putT]
    generalize hH1 : upd H a (.dK (stD g c r (t + 1))) = H1
    have k1 : H1 a = some (.dK (stD g c r (t + 1))) := by rw [← hH1, upd_same]
    have o1 : ∀ b o, H b = some o → b ≠ a → H1 b = some o := fun b o e hb => by rw [← hH1, upd_ne hb]; exact e
    have s1 : SAt H1 a g c cs (n + 1) := ⟨gs, r, t + 1, k1, o1 _ _ h2 ag, o1 _ _ h3 ac, h4, h5, h6, by omega, by omega⟩
    refine ⟨by show 4 ≤ sizeLine; decide, fun L nL => ?_⟩
    have gL : Grows H1 (upd H1 L (.lst [.int 2147483549, .int 2147483543, .int 2147483497, .int 2147483489])) := Grows.new nL
    have kL : upd H1 L (.lst [.int 2147483549, .int 2147483543, .int 2147483497, .int 2147483489]) L = some (.lst ([2147483549, 2147483543, 2147483497, 2147483489].map V.int)) := by rw [upd_same]; rfl
    generalize upd H1 L (.lst [.int 2147483549, .int 2147483543, .int 2147483497, .int 2147483489]) = H2 at gL kL ⊢
    have s2 := s1.grows gL
    have c2 := gL _ _ (o1 _ _ h3 ac)
    have a2 := gL _ _ k1
    refine ⟨L, rfl, ⟨_, .inl (.inl kL)⟩, for_list (K := K) (a := L) (xs := [2147483549, 2147483543, 2147483497, 2147483489].map V.int) (fun i σ H' => H' = H2 ∧ ∃ (fo : Int) (v1 v2 v3 : Option V), 0 ≤ fo ∧ σ = [some (.ref a), some (.int (t + 1)), some (.int fo), v1, v2, v3])
      ⟨rfl, 0, none, none, none, Int.le_refl _, rfl⟩ (fun i σ H' _ ⟨e, _⟩ => by rw [e]; exact .inl (.inl kL)) ?_ ?_⟩
    · rintro i x σ H' hi ⟨rfl, fo, v1, v2, v3, hfo, rfl⟩
      obtain ⟨z, hz, rfl, hz1, hz2⟩ : ∃ z, [(2147483549 : Int), 2147483543, 2147483497, 2147483489][i]? = some z ∧ x = .int z ∧ 2147483489 ≤ z ∧ z ≤ 2147483549 := by
        rw [List.getElem?_map] at hi
        cases e : [(2147483549 : Int), 2147483543, 2147483497, 2147483489][i]? with
        | none => rw [e] at hi; cases hi
        | some z =>
          rw [e] at hi
          refine ⟨z, rfl, (Option.some.inj hi).symm, ?_⟩
          have hm := List.mem_of_getElem? e
          simp only [List.mem_cons, List.not_mem_nil, or_false] at hm
          omega
      have hdiv : (0 : Int) ≤ z.fdiv 41 ∧ z.fdiv 41 ≤ 2147483549 := by
        rw [Int.fdiv_eq_ediv_of_nonneg _ (by decide : (0 : Int) ≤ 41)]
        omega
      refine ⟨_, rfl, _, _, rfl, rfl, .inl ⟨by decide, by decide⟩, _, rfl, z, 41, rfl, rfl, ⟨by decide, by decide⟩, _, _, rfl, rfl, ?_⟩
      have hz0 : (0 : Int) < z := by omega
      have md : ∀ y : Int, 0 ≤ y.fmod z ∧ y.fmod z < z := fun y => by
        rw [Int.fmod_eq_emod_of_nonneg _ (Int.le_of_lt hz0)]
        exact ⟨Int.emod_nonneg _ (by omega), Int.emod_lt_of_pos _ hz0⟩
      refine ⟨_, rfl, a, _, rfl, (st_cells g c r (t + 1)) ▸ DGet.k (k := .inr "cells") a2, c, rfl, ⟨_, .inl (.inl c2)⟩, for_list (K := K) (a := c) (xs := cs.map V.int) (fun i σ H'' => H'' = H' ∧ ∃ (bl : Int) (v3 : Option V), 0 ≤ bl ∧ bl < 2 ^ 60 ∧ σ = [some (.ref a), some (.int (t + 1)), some (.int fo), some (.int z), some (.int bl), v3])
        ⟨rfl, 69621 * (t + 1) + z.fdiv 41, v3, by omega, by omega, rfl⟩ (fun i σ H'' _ ⟨e, _⟩ => by rw [e]; exact .inl (.inl c2)) ?_ ?_⟩
      · rintro i x σ H'' hi ⟨rfl, bl, v3, hb1, hb2, rfl⟩
        obtain ⟨y, rfl⟩ : ∃ y, x = .int y := by
          rw [List.getElem?_map] at hi
          cases e : cs[i]? with
          | none => rw [e] at hi; cases hi
          | some y => rw [e] at hi; exact ⟨y, (Option.some.inj hi).symm⟩
        obtain ⟨m1, m2⟩ := md (bl * 48271 + y + (t + 1))
        refine ⟨_, rfl, _, _, rfl, rfl, .inr ⟨by decide, by decide⟩, _, rfl, _, _, rfl, rfl, _, rfl, _, _, rfl, rfl, .inl ⟨_, rfl, _, rfl, _, _, rfl, rfl, by omega, ?_⟩⟩
        exact ⟨rfl, _, some (.int y), m1, by omega, rfl⟩
      · rintro σ H'' ⟨rfl, bl, v3, hb1, hb2, rfl⟩
        obtain ⟨m1, m2⟩ := md (bl ^ 5)
        refine ⟨_, rfl, _, _, rfl, rfl, .inr ⟨by decide, by decide⟩, _, rfl, _, _, rfl, rfl, ⟨by decide, by decide, by omega⟩, .inl ⟨_, rfl, _, rfl, _, _, rfl, rfl, by omega, _, _, rfl, rfl, ?_⟩⟩
        exact ⟨rfl, _, some (.int z), some (.int bl), v3, by
          have : (0 : Int) ≤ fo * 2147483659 := Int.mul_nonneg hfo (by decide)
          exact Int.add_nonneg this m1, rfl⟩
    · rintro σ H' ⟨rfl, fo, v1, v2, v3, hfo, rfl⟩
      exact ⟨_, rfl, q H' fo hfo s2 fun b o e hb => gL _ _ (o1 b o e hb)⟩
theorem scDraw : FnScope ["state", "room", "found"] ["state", "room"] (defScope sDraw) := ⟨rfl, rfl, rfl, by decide +kernel, rfl, by decide +kernel, by decide +kernel⟩
theorem dp_ints {H : Hp} : ∀ {l : List Int}, DpAll K H (l.map V.int) (l.map PyData.int)
  | [] => .nil
  | x :: l => .cons (.int x) dp_ints
theorem shaped_ints (l : List Int) : SeqAt.shaped (.list (l.map PyData.int)) = true := by
  have e : ∀ l : List Int, PyData.canLayAll0 (l.map PyData.int) = true := fun l => by
    induction l with
    | nil => rfl
    | cons x l ih => simp [PyData.canLayAll0, PyData.canLay0, ih]
  have d : PyData.depth (.list (l.map PyData.int)) ≤ 64 := by
    rw [PyData.depth, PySem.W.depth_ints]
    decide
  unfold SeqAt.shaped
  rw [Bool.and_eq_true]
  exact ⟨by rw [PyData.canLay0]; exact e l, decide_eq_true d⟩
theorem eqv_nil (l : List Int) : PyData.eqv (.list (l.map PyData.int)) (.list []) = decide (l = []) := by
  cases l <;> rfl
def rInt1 : List V → Hp → VK → Prop := fun xs H Q => (∃ i, xs = [.int i] ∧ Q (.int i) H) ∨ ∃ k, xs = [.bl k] ∧ Q (.int (if k then 1 else 0)) H
/-- found = int(state['rest']) % room; state['rest'] = state['rest'] // room; return found -/
def t_fin : TS := tSeq (tAsg (tOp (rI (fun _ j => j ≠ 0) fun i j => .int (i.fmod j)) (tCB rInt1 (tCons (tDGet (tVar 0) (tC (.str "rest"))) tNil)) (tVar 1)) (gName 2))
  (tSeq (sDPut (tVar 0) (tC (.str "rest")) (tOp (rI CDivN fun i j => .int (i.fdiv j)) (tDGet (tVar 0) (tC (.str "rest"))) (tVar 1))) (tRet (tVar 2)))
theorem draw_fin {H H1 : Hp} {a g c : Addr} {cs gs : List Int} {n : Nat} {m r t : Int} {Q : VK} (hm1 : 1 ≤ m) (hm2 : m ≤ 1000000) (h4 : g ≠ c) (ag : g ≠ a) (ac : c ≠ a) (q : ∀ H' i, 0 ≤ i → i < m → SAt H' a g c cs (n + 1) → But H H' a g → Q (.int i) H')
    (hb : But H H1 a g) (k1 : H1 a = some (.dK (stD g c r t))) (k2 : H1 g = some (.lst (gs.map V.int))) (k3 : H1 c = some (.lst (cs.map V.int))) (k5 : ∀ z ∈ gs, 0 ≤ z) (k6 : 0 ≤ r) (k7 : 0 ≤ t) (k8 : t ≤ ((n + 1 : Nat) : Int)) :
    t_fin { nx := fun _ H' => Q .non H', rt := Q } [some (.ref a), some (.int m), none] H1 := by
  have hm0 : (0 : Int) < m := by omega
  refine ⟨_, rfl, a, _, rfl, (st_rest g c r t) ▸ DGet.k (k := .inr "rest") k1, .inl ⟨_, rfl, _, rfl, _, _, rfl, rfl, by omega, ?_⟩⟩
  refine ⟨_, rfl, a, _, rfl, (st_rest g c r t) ▸ DGet.k (k := .inr "rest") k1, _, rfl, _, _, rfl, rfl, ⟨by omega, by omega⟩, ?_⟩
  refine ⟨_, rfl, a, _, rfl, DPut.k (k := .inr "rest") k1 (by show 4 < sizeLine; decide), ?_⟩
  rw [st_putR]
  have e1 : r.fmod m = r % m := Int.fmod_eq_emod_of_nonneg _ (Int.le_of_lt hm0)
  have e2 : r.fdiv m = r / m := Int.fdiv_eq_ediv_of_nonneg _ (Int.le_of_lt hm0)
  refine ⟨_, rfl, q _ _ (by rw [e1]; exact Int.emod_nonneg _ (by omega)) (by rw [e1]; exact Int.emod_lt_of_pos _ hm0) ⟨gs, r.fdiv m, t, upd_same, by rw [upd_ne ag]; exact k2, by rw [upd_ne ac]; exact k3, h4, k5, by rw [e2]; exact Int.ediv_nonneg k6 (Int.le_of_lt hm0), k7, k8⟩ fun b o e n1 n2 => ?_⟩
  rw [upd_ne n1]
  exact hb b o e n1 n2
theorem ok_draw {f f1 : Addr} {fd fd1 : FuncData} (F : L2.Fun K "_law_draw" "_law_draw" sDraw f fd) (B : Blt mg) (G : FnOk P w K mg base CX0 1 f1 fd1 ["state"] spMixed) (D : Def mg K "_law_mixed" f1 fd1 ["state"]) : FnOk P w K mg base CX0 2 f fd ["state", "room"] spDraw := by
  refine F.ok scDraw (fun vs H Q E h => ?_) (fun cdv A outer s H vs Q E hr h => ⟨_,
    pss_cons (ps_if (pt_cmpR op_eq (pe_dget (hu_of hr) (pv 0) pe_str (fun _ _ => rfl)) pe_int (nomark _))
      (pss_one (ps_dput (hu_of hr) (pv 0) pe_str (pe_ifExp (pt_cmpR (op_neD (by have := hr.un; show (A.deeper _).units + 64 < _; omega)) (pe_dget (hu_of hr) (pv 0) pe_str (fun _ _ => rfl)) (pe_lst pa_nil) (nomark _))
        (pe_bm PySem.F.plainAttrs_list PySem.F.slot_list_pop PySem.F.type_list_pop mt_popAt (pe_dget (hu_of hr) (pv 0) pe_str (fun _ _ => rfl)) (pa_cons pe_int pa_nil))
        (pe_call G hr (by rfl) D.g D.k D.b .nil pass0 (pa_cons (pv 0) pa_nil))) rfl)) pss_nil)
    (pss_cons (ps_set (i := 2) scDraw.nd rfl (Or.inl rfl) (pe_op op_modN (pe_callTy call_int1 (by rfl) B.int (by decide +kernel) (pa_cons (pe_dget (hu_of hr) (pv 0) pe_str (fun _ _ => rfl)) pa_nil)) (pv 1)))
    (pss_cons (ps_dput (hu_of hr) (pv 0) pe_str (pe_op op_fdivN (pe_dget (hu_of hr) (pv 0) pe_str (fun _ _ => rfl)) (pv 1)) rfl)
    (pss_one (ps_ret (pv 2))))), ?_⟩)
  · obtain ⟨a, g, c, cs, n, m, rfl, _⟩ := h
    rfl
  · obtain ⟨a, g, c, cs, n, m, rfl, hs, hn, hm1, hm2, q⟩ := h
    obtain ⟨gs, r, t, h1, h2, h3, h4, h5, h6, h7, h8⟩ := hs.ex
    have ag : g ≠ a := ne_of h2 h1 (by intro z; cases z)
    have ac : c ≠ a := ne_of h3 h1 (by intro z; cases z)
    have hm0 : (0 : Int) < m := by omega
    have fin := fun (H1 : Hp) gs r t => draw_fin (H1 := H1) (n := n) (gs := gs) (r := r) (t := t) hm1 hm2 h4 ag ac q
    refine ⟨_, rfl, a, _, rfl, (st_rest g c r t) ▸ DGet.k (k := .inr "rest") h1, rfl, _, rfl, ?_⟩
    by_cases hr0 : r = 0
    · refine if_pos_of (decide_eq_true (congrArg V.int hr0)) ?_
      refine ⟨_, rfl, a, _, rfl, (st_great g c r t) ▸ DGet.k (k := .inr "great") h1, by show 0 ≤ sizeLine; decide, fun p np => ?_⟩
      have gp : Grows H (upd H p (.lst [])) := Grows.new np
      have kp : upd H p (.lst []) p = some (.lst []) := upd_same
      generalize upd H p (.lst []) = H2 at gp kp ⊢
      refine ⟨.list (gs.map PyData.int), .list [], .lst (.inl (.inl (gp _ _ h2))) dp_ints, .lst (.inl (.inl kp)) .nil, shaped_ints gs, rfl, _, rfl, ?_⟩
      rw [eqv_nil]
      cases gs with
      | nil =>
        refine if_neg_of (by decide) ?_
        refine ⟨_, rfl, a, g, c, cs, n, rfl, hs.grows gp, hn, fun H3 i hi s3 hk3 => ?_⟩
        obtain ⟨gs', r', t', k1, k2, k3, k4, k5, k6, k7, k8⟩ := s3.ex
        refine ⟨_, rfl, a, _, rfl, DPut.k (k := .inr "rest") k1 (by show 4 < sizeLine; decide), ?_⟩
        rw [st_putR]
        refine fin (upd H3 a (.dK (stD g c i t'))) gs' i t' (fun b o e n1 n2 => ?_) upd_same (by rw [upd_ne ag]; exact k2) (by rw [upd_ne ac]; exact k3) k5 hi k7 k8
        rw [upd_ne n1]
        exact hk3 b o (gp b o e) n1
      | cons y gs =>
        refine if_pos_of (by rw [decide_eq_false (by simp)]; decide) ?_
        refine ⟨_, rfl, a, .ref g, rfl, (st_great g c r t) ▸ DGet.k (k := .inr "great") (gp _ _ h1), Or.inl ⟨rfl, _, .inl (.inl (gp _ _ h2))⟩, g, _, 0, 0, .int y, rfl, rfl, gp _ _ h2, by decide, by decide, by simp [seqIndex?], rfl, ?_⟩
        refine ⟨_, rfl, a, _, rfl, DPut.k (k := .inr "rest") (show upd H2 g _ a = _ from (upd_ne ag.symm).trans (gp _ _ h1)) (by show 4 < sizeLine; decide), ?_⟩
        rw [st_putR]
        refine fin (upd (upd H2 g (.lst ((gs.map V.int)))) a (.dK (stD g c y t))) gs y t (fun b o e n1 n2 => ?_) upd_same (by rw [upd_ne ag, upd_same]) (by rw [upd_ne ac, upd_ne h4.symm]; exact gp _ _ h3) (fun z hz => h5 z (List.mem_cons_of_mem _ hz)) (h5 y List.mem_cons_self) h7 (by omega)
        rw [upd_ne n1, upd_ne n2]
        exact gp b o e
    · refine if_neg_of (by rw [decide_eq_false (fun z => hr0 (V.int.inj z))]; decide) ?_
      exact fin H gs r t (But.refl H a g) h1 h2 h3 h5 h6 h7 (by omega)
def spPick : Sp := fun vs H Q _ => ∃ (a g c l : Addr) (cs : List Int) (n : Nat) (xs : List V), vs = [.ref a, .ref l] ∧ SAt H a g c cs n ∧ n ≤ 1000000 ∧ H l = some (.lst xs) ∧ l ≠ g ∧ xs ≠ [] ∧ xs.length ≤ 1000000 ∧ ∀ H' x, x ∈ xs → SAt H' a g c cs (n + 1) → But H H' a g → Q x H'
def absI : V → Int
  | .int i => if i < 0 then -i else i
  | _ => 0
theorem absI_nn (v : V) : 0 ≤ absI v := by
  cases v <;> (unfold absI; try exact Int.le_refl _)
  split <;> omega
theorem scPick : FnScope ["state", "some"] ["state", "some"] (defScope sPick) := ⟨rfl, rfl, rfl, by decide +kernel, rfl, by decide +kernel, by decide +kernel⟩
theorem ok_pick {f f1 : Addr} {fd fd1 : FuncData} (F : L2.Fun K "_law_pick" "_law_pick" sPick f fd) (B : Blt mg) (G : FnOk P w K mg base CX0 2 f1 fd1 ["state", "room"] spDraw) (D : Def mg K "_law_draw" f1 fd1 ["state", "room"]) : FnOk P w K mg base CX0 3 f fd ["state", "some"] spPick := by
  refine F.ok scPick (fun vs H Q E h => ?_) (fun cdv A outer s H vs Q E hr h => ⟨_,
    pss_one (ps_ret (pe_ix ix_list (pv 1) (pe_call G hr (by rfl) D.g D.k D.b .nil pass0 (pa_cons (pv 0) (pa_cons (pe_callB call_len_seq (by rfl) B.len PySem.boot_len (pa_cons (pv 1) pa_nil)) pa_nil))) (fun _ _ => rfl))), ?_⟩)
  · obtain ⟨a, g, c, l, cs, n, xs, rfl, _⟩ := h
    rfl
  · obtain ⟨a, g, c, l, cs, n, xs, rfl, hs, hn, hl, lg, hne, hlen, q⟩ := h
    have la : l ≠ a := by
      obtain ⟨gs, r, t, h1, _⟩ := hs.ex
      exact ne_of hl h1 (by intro z; cases z)
    have hpos : 0 < xs.length := List.length_pos_iff.mpr hne
    refine ⟨_, rfl, _, rfl, _, rfl, l, xs, rfl, .inl (.inl (.inl hl)), a, g, c, cs, n, _, rfl, hs, hn, by omega, by omega, fun H' i hi hlt s' hb => ?_⟩
    obtain ⟨k, rfl⟩ : ∃ k : Nat, i = k := ⟨i.toNat, by omega⟩
    have hk : k < xs.length := by omega
    exact ⟨l, xs, k, xs[k], rfl, rfl, .inl (.inl (hb l _ hl la lg)), atI_nat (List.getElem?_eq_getElem hk), q H' _ (List.getElem_mem hk) s' hb⟩
theorem scBegun : FnScope ["script", "great", "cell"] ["script"] (defScope sBegun) := ⟨rfl, rfl, rfl, by decide +kernel, rfl, by decide +kernel, by decide +kernel⟩
theorem ok_begun {f : Addr} {fd : FuncData} (F : L2.Fun K "_law_begun" "_law_begun" sBegun f fd) (B : Blt mg) : FnOk P w K mg base CX0 1 f fd ["script"] (spBegun K) := by
  refine F.ok scBegun (fun vs H Q E h => ?_) (fun cdv A outer s H vs Q E hr h => ⟨_,
    pss_cons (ps_setLc (i := 1) (own := [("cell", 2)]) (g := gName 2) rfl scBegun.nd rfl rfl (sw_true rfl rfl rfl (by decide +kernel)) (pi_list (pv 0)) (blkOk_by (N := ["script", "great", "cell"]) (sc := defScope sBegun) (by decide +kernel)) (fun _ _ _ _ _ => pg_name (i := 2) scBegun.nd rfl (Or.inl rfl))
        (fun _ _ _ _ _ => pts_one (pt_cmpR op_ge (pe_callB call_abs (by rfl) B.abs (by decide +kernel) (pa_cons (pv 2) pa_nil)) (pe_op op_pow pe_int pe_int) (nomark _)))
        (fun _ _ _ _ _ => pe_op op_sub (pe_callB call_abs (by rfl) B.abs (by decide +kernel) (pa_cons (pv 2) pa_nil)) (pe_op op_pow pe_int pe_int)))
    (pss_one (ps_ret (pe_disp (pps_cons pe_str (pv 1) (pps_cons pe_str
        (pe_lc (own := [("cell", 2)]) (g := gName 2) (tt := tYes) rfl scBegun.nd (pi_list (pv 0)) (blkOk_by (N := ["script", "great", "cell"]) (sc := defScope sBegun) (by decide +kernel)) (fun _ _ _ _ _ => pg_name (i := 2) scBegun.nd rfl (Or.inl rfl)) (fun _ _ _ _ _ => pts_nil)
          (fun _ _ _ _ _ => pe_callB call_abs (by rfl) B.abs (by decide +kernel) (pa_cons (pv 2) pa_nil)))
        (pps_cons pe_str pe_int (pps_cons pe_str pe_int pps_nil)))) (by rfl) (by rfl) (by simp) (by decide)))), ?_⟩)
  · obtain ⟨a, ns, rfl, _⟩ := h
    rfl
  · obtain ⟨a, ns, rfl, hs, hn, q⟩ := h
    have hlen : (ns.map V.int).length ≤ sizeLine := by rw [List.length_map]; exact hn
    refine ⟨_, rfl, a, rfl, ⟨_, hs⟩, fun g0 ng => comp (xs := ns.map V.int) walk_list (fun v => decide ((10 : Int) ^ (18 : Int).toNat ≤ absI v)) (fun v => .int (absI v - (10 : Int) ^ (18 : Int).toNat)) ng (fun H g => g.l hs) hlen
      (fun x H k hx g hk => ?_) (fun x H Q hx hp g hq => ?_) (fun H1 g1 hg1 => ?_)⟩
    · obtain ⟨z, _, rfl⟩ := List.mem_map.mp hx
      exact ⟨_, rfl, z, rfl, _, _, rfl, rfl, ⟨by decide, by decide, by decide⟩, _, _, rfl, rfl, _, rfl, hk H (Grows.refl H)⟩
    · obtain ⟨z, _, rfl⟩ := List.mem_map.mp hx
      exact ⟨_, rfl, z, rfl, _, _, rfl, rfl, ⟨by decide, by decide, by decide⟩, _, _, rfl, rfl, hq H (Grows.refl H)⟩
    · intro p np
      have np0 : H p = none := by
        cases e : H p with
        | none => rfl
        | some o => rw [g1 _ _ e] at np; cases np
      have gp : Grows H1 (upd H1 p (.dK [])) := Grows.new np
      have kp : upd H1 p (.dK []) p = some (.dK []) := upd_same
      generalize upd H1 p (.dK []) = H2 at gp kp ⊢
      have g2 := g1.trans gp
      refine ⟨_, rfl, ?_⟩
      refine ⟨_, rfl, a, rfl, ⟨_, g2.l hs⟩, fun c0 nc => comp (xs := ns.map V.int) walk_list (fun _ => true) (fun v => .int (absI v)) nc (fun H g => (g2.trans g).l hs) hlen (fun x H k hx g hk => hk H (Grows.refl H)) (fun x H Q hx hp g hq => ?_) (fun H3 g3 hg3 => ?_)⟩
      · obtain ⟨z, _, rfl⟩ := List.mem_map.mp hx
        exact ⟨_, rfl, z, rfl, hq H (Grows.refl H)⟩
      · rw [filter_yes] at hg3
        refine ⟨g3 _ _ kp, stD g0 c0 0 0, rfl, by show 4 ≤ 15; decide, ?_⟩
        rw [st_new]
        have gP : g0 ≠ p := ne_of (gp _ _ hg1) kp (by intro z; cases z)
        have cP : c0 ≠ p := ne_of hg3 (g3 _ _ kp) (by intro z; cases z)
        have gc : g0 ≠ c0 := ne_of_none (gp _ _ hg1) nc
        refine q _ p g0 c0 ((ns.map V.int).map absI) (fun b o e => ?_) ⟨((ns.map V.int).filter fun v => decide ((10 : Int) ^ (18 : Int).toNat ≤ absI v)).map (fun v => absI v - (10 : Int) ^ (18 : Int).toNat), 0, 0, upd_same, ?_, ?_, gc, ?_, by decide, by decide, by decide⟩ np0 ng
        · rw [upd_ne (ne_of_none e np0)]
          exact g3 _ _ (g2 _ _ e)
        · rw [upd_ne gP, g3 _ _ (gp _ _ hg1), List.map_map]
          rfl
        · rw [upd_ne cP, hg3]
          simp only [List.map_map]
          rfl
        · intro z hz
          obtain ⟨v, hv, rfl⟩ := List.mem_map.mp hz
          have := of_decide_eq_true (List.mem_filter.mp hv).2
          omega
end
end SWL
set_option Elab.async false
set_option linter.all false
set_option maxRecDepth 100000
set_option maxHeartbeats 4000000
namespace SWL
open PySem PySem.Spec PyProof.Rows L2 LamX
theorem pe_no {X : Cx} {e : Expr} : PE X e (fun _ _ _ => False) := ⟨fun _ _ _ _ _ _ h => h.elim⟩
theorem pss_no {X : Cx} {b : List Stmt} : PSs X b (fun _ _ _ => False) := ⟨fun _ _ _ _ _ _ h => h.elim⟩
def spPlain (K : PySem.W.Frag) (k : Nat) : Sp := fun vs H Q _ => ∃ x d, vs = [x] ∧ Dp K H x d ∧ d.depth < k ∧ ∀ H', Grows H H' → Q (.bl true) H'
section
variable {P : Program} {w : World} {K : PySem.W.Frag} {mg : Str → Option Value} {base : Heap}
theorem scPlain : FnScope ["value", "one"] ["value"] (defScope sPlain) := ⟨rfl, rfl, rfl, by decide +kernel, rfl, by decide +kernel, by decide +kernel⟩
theorem dpall_mem {H : Hp} : ∀ {xs : List V} {ds : List PyData}, DpAll K H xs ds → ∀ x ∈ xs, ∃ d, Dp K H x d ∧ d.depth ≤ PyData.depthAll ds
  | _, _, .nil, x, hx => by cases hx
  | _, _, .cons (d := d) (ds := ds) h t, x, hx => by
    rcases List.mem_cons.mp hx with rfl | hx
    · exact ⟨d, h, by rw [PyData.depthAll]; omega⟩
    · obtain ⟨d', h1, h2⟩ := dpall_mem t x hx
      exact ⟨d', h1, by rw [PyData.depthAll]; omega⟩
theorem ok_plain {f : Addr} {fd : FuncData} (F : L2.Fun K "_law_plain" "_law_plain" sPlain f fd) (B : Blt mg) (D : Def mg K "_law_plain" f fd ["value"]) : ∀ k : Nat, FnOk P w K mg base CX0 (k + 1) f fd ["value"] (spPlain K k)
  | 0 => F.ok scPlain (fun vs H Q E h => by obtain ⟨x, d, rfl, _⟩ := h; rfl) (fun cdv A outer s H vs Q E hr h => by
      obtain ⟨x, d, _, _, z, _⟩ := h
      exact absurd z (Nat.not_lt_zero _))
  | k + 1 => by
    have G := ok_plain F B D k
    refine F.ok scPlain (fun vs H Q E h => by obtain ⟨x, d, rfl, _⟩ := h; rfl) (fun cdv A outer s H vs Q E hr h => ⟨_,
      pss_cons (ps_if (pt_truth (pe_callB call_isiT (by rfl) B.isi (by decide +kernel) (pa_cons (pv 0) (pa_cons (pe_tup (pa_cons (pe_bltn (u := .type "list") (v := .ty "list") (by rfl) B.list (by decide +kernel) rfl) (pa_cons (pe_bltn (u := .type "tuple") (v := .ty "tuple") (by rfl) B.tuple (by decide +kernel) rfl) pa_nil))) pa_nil))) (by intro _; rfl))
        (pss_one (ps_ret (pe_cmpR (op_eqD (by have := hr.un; show (A.deeper _).units + 64 < _; omega)) (pe_lc (own := [("one", 1)]) (g := gName 1) (tt := tNot fun σ H Q => tCall (spPlain K k) [] E0 (tCons (tVar 1) tNil) σ H fun x H' => ∃ k, TruV K x H' k ∧ Q k H') rfl scPlain.nd (pi_or (pi_list (pv 0)) (pi_tup (pv 0))) (blkOk_by (N := ["value", "one"]) (sc := defScope sPlain) (by decide +kernel)) (fun _ _ _ _ _ => pg_name (i := 1) scPlain.nd rfl (Or.inl rfl))
          (fun _ _ _ _ _ => pts_one (pt_not (pt_truth (pe_call G hr (by rfl) D.g D.k D.b .nil pass0 (pa_cons (pv 1) pa_nil)) (by intro _; rfl)))) (fun _ _ _ _ _ => pe_int)) (pe_lst pa_nil) (nomark _)))) pss_nil)
      (pss_cons (ps_if (pt_truth (pe_callB call_isi (by rfl) B.isi (by decide +kernel) (pa_cons (pv 0) (pa_cons (pe_bltn (u := .type "dict") (v := .ty "dict") (by rfl) B.dict (by decide +kernel) rfl) pa_nil))) (by intro _; rfl)) pss_no pss_nil)
      (pss_one (ps_ret (pe_or (pe_cmpR op_isN1 (pv 0) pe_non (nomark _)) (pe_one (pe_callB call_isiT (by rfl) B.isi (by decide +kernel) (pa_cons (pv 0) (pa_cons (pe_tup (pa_cons (pe_bltn (u := .type "int") (v := .ty "int") (by rfl) B.int (by decide +kernel) rfl) (pa_cons (pe_bltn (u := .type "str") (v := .ty "str") (by rfl) B.str (by decide +kernel) rfl) pa_nil))) pa_nil)))))))), ?_⟩)
    obtain ⟨x, d, rfl, hd, hk, q⟩ := h
    refine ⟨_, rfl, by show 2 ≤ sizeLine; decide, fun tp ntp => ?_⟩
    have gt : Grows H (upd H tp (.tup [.ty "list", .ty "tuple"])) := Grows.new ntp
    have kt : upd H tp (.tup [.ty "list", .ty "tuple"]) tp = some (.tup [.ty "list", .ty "tuple"]) := upd_same
    generalize upd H tp (.tup [.ty "list", .ty "tuple"]) = H1 at gt kt ⊢
    have kinds : (∃ (a : Addr) (xs : List V) (ds : List PyData), x = .ref a ∧ Sq K H a xs ∧ DpAll K H xs ds ∧ d.depth = 1 + PyData.depthAll ds) ∨ ∃ t : String, TyX K H x (.type t) ∧ kitB t "list" = some false ∧ kitB t "tuple" = some false ∧ kitB t "dict" = some false ∧ (x = .non ∨ (x ≠ .non ∧ PySem.W.kitAny K (.type t) [.type "int", .type "str"] = some true)) := by
      cases hd with
      | non => exact .inr ⟨"NoneType", .base .non, by decide +kernel, by decide +kernel, by decide +kernel, .inl rfl⟩
      | bl b => exact .inr ⟨"bool", .base (.bl b), by decide +kernel, by decide +kernel, by decide +kernel, .inr ⟨(by intro z; cases z), kitAny_cons (b := true) (kit_ty (by decide +kernel)) (fun z => by cases z) fun _ => rfl⟩⟩
      | int b => exact .inr ⟨"int", .base (.int b), by decide +kernel, by decide +kernel, by decide +kernel, .inr ⟨(by intro z; cases z), kitAny_cons (b := true) (kit_ty (by decide +kernel)) (fun z => by cases z) fun _ => rfl⟩⟩
      | str b => exact .inr ⟨"str", .base (.str b), by decide +kernel, by decide +kernel, by decide +kernel, .inr ⟨(by intro z; cases z), kitAny_cons (b := false) (kit_ty (by decide +kernel)) (fun _ => kitAny_cons (b := true) (kit_ty (by decide +kernel)) (fun z => by cases z) fun _ => rfl) fun z => by cases z⟩⟩
      | lst h1 h2 => exact .inl ⟨_, _, _, rfl, .inl h1, h2, by rw [PyData.depth]; omega⟩
      | tup h1 h2 => exact .inl ⟨_, _, _, rfl, .inr h1, h2, by rw [PyData.depth]; omega⟩
    rcases kinds with ⟨a, xs, ds, rfl, hs, hds, hdep⟩ | ⟨t, ty, k1, k2, k3, k4⟩
    · obtain ⟨t, ty, ka⟩ := ty_sq (gt.sq hs)
      refine ⟨.ref a, tp, _, .type t, [.type "list", .type "tuple"], true, rfl, kt, .cons (.ty _) (.cons (.ty _) .nil), ty, ka, true, rfl, if_pos_of rfl ?_⟩
      have main : ∀ (J : It) (G : Hp → Prop), Walk J xs.length G (YAt xs) → (∀ H', Grows H1 H' → G H') → _ := fun J G wk hG D0 (nD : H1 D0 = none) =>
        compF (σ := [some (.ref a), none]) (i := 1) (te := tC (.int 1)) (tt := tNot fun σ H Q => tCall (spPlain K k) [] E0 (tCons (tVar 1) tNil) σ H fun x H' => ∃ k, TruV K x H' k ∧ Q k H')
          (Qd := fun H2 => tLst tNil [some (.ref a), none] H2 fun y H3 => rEqD K (.ref D0) y H3 fun v H4 => Q v H4) wk (fun _ => false) (fun _ => .int 1) nD hG (by rw [show xs.filter (fun _ => false) = [] from by simp]; exact Nat.zero_le _)
          (fun y H2 kk hy g2 hkk => by
            obtain ⟨d', h1, h2⟩ := dpall_mem hds y hy
            refine ⟨_, rfl, y, d', rfl, (gt.trans g2).dp _ _ h1, by omega, fun H3 g3 => ⟨true, rfl, hkk H3 g3⟩⟩)
          (fun y H2 Q hy hp => by cases hp)
          (fun H2 g2 hD => by
            have e : (xs.filter fun _ => false).map (fun _ => V.int 1) = [] := by simp
            rw [e] at hD
            refine ⟨by show 0 ≤ sizeLine; decide, fun p np => ?_⟩
            exact ⟨.list [], .list [], .lst (.inl (.inl ((Grows.new np) _ _ hD))) .nil, .lst (.inl (.inl upd_same)) .nil, rfl, rfl, q _ ((gt.trans g2).trans (Grows.new np))⟩)
      rcases hs with hs | hs
      · exact .inl ⟨_, rfl, a, rfl, ⟨_, gt.l hs⟩, main _ _ walk_list fun H' g => (gt.trans g).l hs⟩
      · exact .inr ⟨_, rfl, a, rfl, ⟨_, gt.t hs⟩, main _ _ walk_tup fun H' g => (gt.trans g).t hs⟩
    · refine ⟨x, tp, _, .type t, [.type "list", .type "tuple"], false, rfl, kt, .cons (.ty _) (.cons (.ty _) .nil), tyx_grows gt ty, NotSeq.kit k1 k2, false, rfl, if_neg_of (by decide) ?_⟩
      refine ⟨_, rfl, x, .ty "dict", .type t, .type "dict", false, rfl, .ty "dict", tyx_grows gt ty, kit_ty k3, false, rfl, if_neg_of (by decide) ?_⟩
      rcases k4 with e | ⟨e, k4⟩
      · exact ⟨_, rfl, rfl, _, rfl, if_pos_of (decide_eq_true e) (q H1 gt)⟩
      · refine ⟨_, rfl, rfl, _, rfl, if_neg_of (by rw [decide_eq_false e]; decide) ?_⟩
        refine ⟨_, rfl, by show 2 ≤ sizeLine; decide, fun tp2 ntp2 => ?_⟩
        exact ⟨x, tp2, _, .type t, [.type "int", .type "str"], true, rfl, upd_same, .cons (.ty _) (.cons (.ty _) .nil), tyx_grows (gt.trans (Grows.new ntp2)) ty, k4, q _ (gt.trans (Grows.new ntp2))⟩
end
structure GoodD (d : PyData) : Prop where
  lay : d.layable0 = true
  dep : d.depth ≤ 50
  short : d.intsShort 13 = true
  sh : d.showable = true
  nd : d.hasDict = false
theorem GoodD.can {d : PyData} (g : GoodD d) : d.canLay0 = true := by
  have h : (PyData.canLay0 d && decide (PyData.depth d ≤ 64) && decide (PyData.weight d ≤ 2 ^ 20)) = true := g.lay
  simp only [Bool.and_eq_true] at h
  exact h.1.1
theorem GoodD.shaped {d : PyData} (g : GoodD d) : SeqAt.shaped d = true := SeqAt.shaped_of_layable g.lay
section
variable {P : Program} {w : World} {K : PySem.W.Frag} {mg : Str → Option Value} {base : Heap}
theorem scIs : FnScope ["found", "due"] ["found", "due"] (defScope sIs) := ⟨rfl, rfl, rfl, by decide +kernel, rfl, by decide +kernel, by decide +kernel⟩
end
/-- what is told and what is due: one data -/
def spIsV (K : PySem.W.Frag) (k : Nat) : Sp := fun vs H Q _ => ∃ (x y : V) (d : PyData), vs = [x, y] ∧ Dp K H x d ∧ Dp K H y d ∧ GoodD d ∧ d.depth < k ∧ ∀ H', Grows H H' → Q (.bl true) H'
theorem good_str {z : Str} (h1 : PyData.strOk z = true) (h2 : z.length ≤ 100000) : GoodD (.str z) := by
  refine ⟨?_, Nat.zero_le _, rfl, rfl, rfl⟩
  unfold PyData.layable0
  have e1 : PyData.canLay0 (.str z) = true := h1
  have e2 : PyData.weight (.str z) = z.length := by rw [PyData.weight]; rfl
  rw [e1, e2]
  have : z.length ≤ 2 ^ 20 := by omega
  simp [this, PyData.depth]
theorem good_bool (b : Bool) : GoodD (.bool b) := by
  cases b <;> exact ⟨by decide +kernel, by decide +kernel, by decide +kernel, by decide +kernel, by decide +kernel⟩
section
variable {P : Program} {w : World} {K : PySem.W.Frag} {mg : Str → Option Value} {base : Heap}
theorem ok_isV {f f1 : Addr} {fd fd1 : FuncData} {k : Nat} (F : L2.Fun K "_law_is" "_law_is" sIs f fd) (B : Blt mg) (G : FnOk P w K mg base CX0 (k + 1) f1 fd1 ["value"] (spPlain K k)) (D : Def mg K "_law_plain" f1 fd1 ["value"]) : FnG P w K mg base (k + 2) f fd ["found", "due"] (spIsV K k) := by
  refine fng_ok F scIs (fun vs H Q E h => ?_) (fun cdv A outer s H vs Q E gA _ hr h => ⟨_,
    pss_one (ps_ret (pe_and (pe_call G hr (by rfl) D.g D.k D.b .nil pass0 (pa_cons (pv 0) pa_nil))
      (pe_and (pe_cmpR (op_eqD (by have := hr.un; show (A.deeper _).units + 64 < _; omega)) (pv 0) (pv 1) (nomark _))
      (pe_and (pe_cmpR (op_eqD (by have := hr.un; show (A.deeper _).units + 64 < _; omega)) (pv 1) (pv 0) (nomark _))
      (pe_one (pe_cmpR op_eq (pe_callB (cr_reprD gA (by have := hr.un; show (A.deeper _).units + 64 < _; omega)) (by rfl) B.repr (by decide +kernel) (pa_cons (pv 0) pa_nil)) (pe_callB (cr_reprD gA (by have := hr.un; show (A.deeper _).units + 64 < _; omega)) (by rfl) B.repr (by decide +kernel) (pa_cons (pv 1) pa_nil)) (nomark _))))))), ?_⟩)
  · obtain ⟨a, b, d, rfl, _⟩ := h
    rfl
  · obtain ⟨a, b, d, rfl, h1, h2, g, hk, q⟩ := h
    have fit : d.shown.length ≤ sizeLine := by
      have := PyData.shown_le_of_layable0 g.lay g.short
      exact Nat.le_trans this (by decide)
    refine ⟨_, rfl, _, d, rfl, h1, hk, fun H1 g1 => ⟨true, rfl, if_pos_of rfl ?_⟩⟩
    have k1 := g1.dp _ _ h1
    have k2 := g1.dp _ _ h2
    refine ⟨_, rfl, _, rfl, d, d, k1, k2, g.shaped, g.shaped, PyData.eqv d d, rfl, ?_⟩
    rw [PySem.SeqAt.eqv_refl d g.can]
    refine if_pos_of rfl ⟨_, rfl, _, rfl, d, d, k2, k1, g.shaped, g.shaped, PyData.eqv d d, rfl, ?_⟩
    rw [PySem.SeqAt.eqv_refl d g.can]
    refine if_pos_of rfl ⟨_, rfl, a, d, rfl, k1, g.sh, g.nd, g.dep, fit, _, rfl, b, d, rfl, k2, g.sh, g.nd, g.dep, fit, rfl, ?_⟩
    rw [decide_eq_true rfl]
    exact q H1 g1
end
end SWL
set_option Elab.async false
set_option linter.all false
set_option maxRecDepth 100000
set_option maxHeartbeats 4000000
namespace SWL
open PySem PySem.Spec PyProof.Rows L2 LamX
/-- no number -/
def NotNum (K : PySem.W.Frag) (H : Hp) (x : V) : Prop := (∃ b, x = .bl b) ∨ ∃ t : String, TyX K H x (.type t) ∧ kitB t "int" = some false
theorem NotNum.grows {K : PySem.W.Frag} {H H' : Hp} (g : Grows H H') {x : V} (h : NotNum K H x) : NotNum K H' x := h.imp id fun ⟨t, h1, h2⟩ => ⟨t, tyx_grows g h1, h2⟩
def spIsNum (K : PySem.W.Frag) : Sp := fun vs H Q _ => ∃ x lo hi, vs = [x, .int lo, .int hi] ∧ ((∃ i, x = .int i ∧ Q (.bl (decide (lo ≤ i ∧ i ≤ hi))) H) ∨ (NotNum K H x ∧ Q (.bl false) H))
section
variable {P : Program} {w : World} {K : PySem.W.Frag} {mg : Str → Option Value} {base : Heap}
theorem scIsNum : FnScope ["thing", "least", "most"] ["thing", "least", "most"] (defScope sIsNum) := ⟨rfl, rfl, rfl, by decide +kernel, rfl, by decide +kernel, by decide +kernel⟩
theorem ok_isNum {f : Addr} {fd : FuncData} (F : L2.Fun K "is_number" "is_number" sIsNum f fd) (B : Blt mg) : FnOk P w K mg base CX0 1 f fd ["thing", "least", "most"] (spIsNum K) := by
  refine F.ok scIsNum (fun vs H Q E h => ?_) (fun cdv A outer s H vs Q E hr h => ⟨_,
    pss_one (ps_ret (pe_and (pe_callB call_isi (by rfl) B.isi (by decide +kernel) (pa_cons (pv 0) (pa_cons (pe_bltn (u := .type "int") (v := .ty "int") (by rfl) B.int (by decide +kernel) rfl) pa_nil)))
      (pe_and (pe_not (pe_callB call_isi (by rfl) B.isi (by decide +kernel) (pa_cons (pv 0) (pa_cons (pe_bltn (u := .type "bool") (v := .ty "bool") (by rfl) B.bool (by decide +kernel) rfl) pa_nil))))
      (pe_one (pe_chain op_le op_le (pv 1) (pv 0) (pv 2)))))), ?_⟩)
  · obtain ⟨x, lo, hi, rfl, _⟩ := h
    rfl
  · obtain ⟨x, lo, hi, rfl, h⟩ := h
    rcases h with ⟨i, rfl, q⟩ | ⟨⟨b, rfl⟩ | ⟨t, ty, hk⟩, q⟩
    · refine ⟨_, rfl, .int i, .ty "int", .type "int", .type "int", true, rfl, .ty "int", .base (.int i), kit_ty (by decide +kernel), true, rfl, if_pos_of rfl ?_⟩
      refine ⟨_, rfl, .int i, .ty "bool", .type "int", .type "bool", false, rfl, .ty "bool", .base (.int i), kit_ty (by decide +kernel), false, rfl, true, rfl, if_pos_of rfl ?_⟩
      refine ⟨_, rfl, _, rfl, _, _, rfl, rfl, _, rfl, ?_⟩
      by_cases h1 : lo ≤ i
      · refine if_pos_of (decide_eq_true h1) ⟨_, rfl, _, _, rfl, rfl, ?_⟩
        rw [show decide (lo ≤ i ∧ i ≤ hi) = decide (i ≤ hi) from decide_eq_decide.mpr ⟨fun z => z.2, fun z => ⟨h1, z⟩⟩] at q
        exact q
      · refine if_neg_of (by rw [decide_eq_false h1]; decide) ?_
        rw [show decide (lo ≤ i ∧ i ≤ hi) = false from decide_eq_false fun z => h1 z.1] at q
        exact q
    · refine ⟨_, rfl, .bl b, .ty "int", .type "bool", .type "int", true, rfl, .ty "int", .base (.bl b), kit_ty (by decide +kernel), true, rfl, if_pos_of rfl ?_⟩
      exact ⟨_, rfl, .bl b, .ty "bool", .type "bool", .type "bool", true, rfl, .ty "bool", .base (.bl b), kit_ty (by decide +kernel), true, rfl, false, rfl, if_neg_of (by decide) q⟩
    · exact ⟨_, rfl, x, .ty "int", .type t, .type "int", false, rfl, .ty "int", ty, kit_ty hk, false, rfl, if_neg_of (by decide) q⟩
end
end SWL
set_option Elab.async false
set_option linter.all false
set_option maxRecDepth 100000
set_option maxHeartbeats 4000000
namespace SWL
open PySem PySem.Spec PyProof.Rows L2 LamX
/-! machines as mathematics: rows, and machines that go along with one another -/
def sg (c : Nat) : Str := ⟨#[c]⟩
def nV (i : Nat) : V := .int ((i : Nat) : Int)
abbrev Rw := Bool × List Nat
structure WfR (m : Nat) (R : List Rw) : Prop where
  pos : 0 < R.length
  len : ∀ (k : Nat) (r : Rw), R[k]? = some r → r.2.length = m
  lt : ∀ (k : Nat) (r : Rw), R[k]? = some r → ∀ (j t : Nat), r.2[j]? = some t → t < R.length
def acR (R : List Rw) (s : Nat) : Bool := (R[s]?.map (·.1)).getD false
def toR (R : List Rw) (s j : Nat) : Nat := ((R[s]?.map (·.2)).getD []).getD j 0
theorem acR_of {R : List Rw} {s : Nat} {r : Rw} (h : R[s]? = some r) : acR R s = r.1 := by unfold acR; rw [h]; rfl
theorem toR_of {R : List Rw} {s j t : Nat} {r : Rw} (h : R[s]? = some r) (h2 : r.2[j]? = some t) : toR R s j = t := by
  unfold toR
  rw [h]
  show r.2.getD j 0 = t
  rw [List.getD_eq_getElem?_getD, h2]
  rfl
theorem WfR.row {m : Nat} {R : List Rw} (W : WfR m R) {s : Nat} (h : s < R.length) : ∃ r, R[s]? = some r ∧ r.2.length = m := ⟨_, List.getElem?_eq_getElem h, W.len s _ (List.getElem?_eq_getElem h)⟩
theorem WfR.to {m : Nat} {R : List Rw} (W : WfR m R) {s j : Nat} (h : s < R.length) (hj : j < m) : toR R s j < R.length ∧ ∀ r, R[s]? = some r → r.2[j]? = some (toR R s j) := by
  obtain ⟨r, e, l⟩ := W.row h
  have e2 : r.2[j]? = some r.2[j] := List.getElem?_eq_getElem (by omega)
  have e3 := toR_of e e2
  refine ⟨by rw [e3]; exact W.lt s r e j _ e2, fun r' h' => ?_⟩
  rw [e] at h'
  rw [← Option.some.inj h', e3]
  exact e2
/-- where a word leads, its letters told by their places -/
def runR (R : List Rw) (s : Nat) (w : List Nat) : Nat := w.foldl (toR R) s
def tkR (R : List Rw) (s : Nat) (w : List Nat) : Bool := acR R (runR R s w)
theorem runR_cons (R : List Rw) (s j : Nat) (w : List Nat) : runR R s (j :: w) = runR R (toR R s j) w := rfl
theorem runR_app (R : List Rw) (s : Nat) (u w : List Nat) : runR R s (u ++ w) = runR R (runR R s u) w := List.foldl_append
theorem runR_lt {m : Nat} {R : List Rw} (W : WfR m R) : ∀ {w : List Nat} {s : Nat}, s < R.length → (∀ j ∈ w, j < m) → runR R s w < R.length
  | [], _, h, _ => h
  | j :: w, s, h, hw => runR_lt W (w := w) (W.to h (hw j List.mem_cons_self)).1 fun i hi => hw i (List.mem_cons_of_mem _ hi)
/-- h leads each stand of R to one of R' that goes along with it -/
def Along (m : Nat) (R R' : List Rw) (h : Nat → Nat) : Prop := ∀ s, s < R.length → h s < R'.length ∧ acR R' (h s) = acR R s ∧ ∀ j, j < m → toR R s j < R.length ∧ h (toR R s j) = toR R' (h s) j
theorem along_run {m : Nat} {R R' : List Rw} {h : Nat → Nat} (A : Along m R R' h) : ∀ {w : List Nat} {s : Nat}, s < R.length → (∀ j ∈ w, j < m) → h (runR R s w) = runR R' (h s) w ∧ runR R s w < R.length
  | [], _, hs, _ => ⟨rfl, hs⟩
  | j :: w, s, hs, hw => by
    obtain ⟨h1, h2⟩ := (A s hs).2.2 j (hw j List.mem_cons_self)
    obtain ⟨h3, h4⟩ := along_run A (w := w) h1 fun i hi => hw i (List.mem_cons_of_mem _ hi)
    rw [runR_cons, runR_cons, h3, h2]
    exact ⟨rfl, h4⟩
theorem along_tk {m : Nat} {R R' : List Rw} {h : Nat → Nat} (A : Along m R R' h) {w : List Nat} {s : Nat} (hs : s < R.length) (hw : ∀ j ∈ w, j < m) : tkR R' (h s) w = tkR R s w := by
  obtain ⟨h1, h2⟩ := along_run A hs hw
  unfold tkR
  rw [← h1]
  exact (A _ h2).2.1
/-! numbers by first appearance -/
theorem snoc_ind' {α : Type} {P : List α → Prop} (h0 : P []) (h : ∀ l w, P l → P (l ++ [w])) (l : List α) : P l := by
  have : ∀ r : List α, P r.reverse := by
    intro r
    induction r with
    | nil => exact h0
    | cons a r ih => rw [List.reverse_cons]; exact h _ _ ih
  have := this l.reverse
  rwa [List.reverse_reverse] at this
section
variable {α : Type} [DecidableEq α]
def numK (a : List α × List Nat) (k : α) : List α × List Nat := if k ∈ a.1 then (a.1, a.2 ++ [a.1.idxOf k]) else (a.1 ++ [k], a.2 ++ [a.1.length])
def numsK (ks : List α) : List α × List Nat := ks.foldl numK ([], [])
theorem numsK_snoc (ks : List α) (k : α) : numsK (ks ++ [k]) = numK (numsK ks) k := by
  unfold numsK
  rw [List.foldl_append]
  rfl
def cntF (f : List Nat) : Nat := f.foldl (fun n x => max n (x + 1)) 0
theorem cntF_snoc (f : List Nat) (x : Nat) : cntF (f ++ [x]) = max (cntF f) (x + 1) := by
  unfold cntF
  rw [List.foldl_append]
  rfl
/-- each number is one that was told, or the next one -/
def FirstApp (f : List Nat) : Prop := ∀ (i x : Nat), f[i]? = some x → x ≤ cntF (f.take i)
structure NumOk (ks : List α) (n : List α × List Nat) : Prop where
  nd : n.1.Nodup
  len : n.2.length = ks.length
  at_ : ∀ (i : Nat) (k : α), ks[i]? = some k → ∃ x, n.2[i]? = some x ∧ n.1[x]? = some k
  sub : ∀ k ∈ n.1, k ∈ ks
  cnt : cntF n.2 = n.1.length
  app : FirstApp n.2
theorem getElem?_idx {l : List α} {k : α} (h : k ∈ l) : l[l.idxOf k]? = some k := by
  have h1 := List.idxOf_lt_length_of_mem h
  rw [List.getElem?_eq_getElem h1]
  exact congrArg some (List.getElem_idxOf h1)
theorem numOk : ∀ ks : List α, NumOk ks (numsK ks) := by
  refine snoc_ind' ?_ fun ks k ih => ?_
  · exact ⟨List.nodup_nil, rfl, (fun i k h => by cases h), (fun k h => h), rfl, fun i x h => by cases h⟩
  · rw [numsK_snoc]
    generalize numsK ks = n at ih
    have app : ∀ x : Nat, x ≤ cntF n.2 → FirstApp (n.2 ++ [x]) := fun x hx i y hy => by
      by_cases c : i < n.2.length
      · rw [List.getElem?_append_left c] at hy
        rw [List.take_append_of_le_length (by omega)]
        exact ih.app i y hy
      · have hi := (List.getElem?_eq_some_iff.mp hy).1
        rw [List.length_append, List.length_singleton] at hi
        have h0 : i - n.2.length = 0 := by omega
        rw [List.getElem?_append_right (by omega), h0] at hy
        rw [← Option.some.inj hy, show i = n.2.length by omega, List.take_append_of_le_length (Nat.le_refl _), List.take_length]
        exact hx
    have at_ : ∀ (N : List α) (x : Nat), (∀ (i : Nat) (z : α), n.1[i]? = some z → N[i]? = some z) → N[x]? = some k → ∀ (i : Nat) (z : α), (ks ++ [k])[i]? = some z → ∃ y, (n.2 ++ [x])[i]? = some y ∧ N[y]? = some z := fun N x hN hx i z hz => by
      by_cases c : i < ks.length
      · rw [List.getElem?_append_left c] at hz
        obtain ⟨y, h1, h2⟩ := ih.at_ i z hz
        exact ⟨y, by rw [List.getElem?_append_left (by rw [ih.len]; exact c)]; exact h1, hN y z h2⟩
      · have hi := (List.getElem?_eq_some_iff.mp hz).1
        rw [List.length_append, List.length_singleton] at hi
        have h0 : i - ks.length = 0 := by omega
        rw [List.getElem?_append_right (by omega), h0] at hz
        refine ⟨x, ?_, by rw [hx]; exact hz⟩
        rw [List.getElem?_append_right (by rw [ih.len]; omega), ih.len, h0]
        rfl
    unfold numK
    by_cases c : k ∈ n.1
    · rw [if_pos c]
      have hl := List.idxOf_lt_length_of_mem c
      refine ⟨ih.nd, by rw [List.length_append, List.length_append, ih.len]; rfl, at_ _ _ (fun _ _ h => h) (getElem?_idx c), fun z hz => List.mem_append_left _ (ih.sub z hz), ?_, app _ (by rw [ih.cnt]; omega)⟩
      rw [cntF_snoc, ih.cnt]
      show max n.1.length (n.1.idxOf k + 1) = n.1.length
      omega
    · rw [if_neg c]
      refine ⟨?_, by rw [List.length_append, List.length_append, ih.len]; rfl, at_ _ _ (fun i z h => by rw [List.getElem?_append_left (List.getElem?_eq_some_iff.mp h).1]; exact h) (by rw [List.getElem?_append_right (Nat.le_refl _), Nat.sub_self]; rfl), fun z hz => ?_, ?_, app _ (by rw [ih.cnt]; exact Nat.le_refl _)⟩
      · rw [List.nodup_append]
        refine ⟨ih.nd, by simp, fun a ha b hb => ?_⟩
        rw [List.mem_singleton.mp hb]
        exact fun e => c (e ▸ ha)
      · rcases List.mem_append.mp hz with h | h
        · exact List.mem_append_left _ (ih.sub z h)
        · exact List.mem_append_right _ h
      · rw [cntF_snoc, ih.cnt, List.length_append, List.length_singleton]
        omega
theorem NumOk.same {ks : List α} {n : List α × List Nat} (N : NumOk ks n) {i j : Nat} {x y : α} (h1 : ks[i]? = some x) (h2 : ks[j]? = some y) (e : n.2[i]? = n.2[j]?) : x = y := by
  obtain ⟨a, p1, q1⟩ := N.at_ i x h1
  obtain ⟨b, p2, q2⟩ := N.at_ j y h2
  rw [p1, p2] at e
  rw [Option.some.inj e] at q1
  rw [q1] at q2
  exact Option.some.inj q2
theorem NumOk.eq_of {ks : List α} {n : List α × List Nat} (N : NumOk ks n) {i j : Nat} {x : α} (h1 : ks[i]? = some x) (h2 : ks[j]? = some x) : n.2[i]? = n.2[j]? := by
  obtain ⟨a, p1, q1⟩ := N.at_ i x h1
  obtain ⟨b, p2, q2⟩ := N.at_ j x h2
  have ha := (List.getElem?_eq_some_iff.mp q1)
  have hb := (List.getElem?_eq_some_iff.mp q2)
  have : a = b := (List.getElem_inj N.nd).mp (ha.2.trans hb.2.symm)
  rw [p1, p2, this]
end
theorem cntF_le {f : List Nat} {i x : Nat} (h : f[i]? = some x) : x < cntF f := by
  have gen : ∀ (l : List Nat) (n : Nat), n ≤ l.foldl (fun n x => max n (x + 1)) n ∧ ∀ x ∈ l, x + 1 ≤ l.foldl (fun n x => max n (x + 1)) n := by
    intro l
    induction l with
    | nil => exact fun n => ⟨Nat.le_refl _, fun x h => by cases h⟩
    | cons a l ih =>
      intro n
      obtain ⟨h1, h2⟩ := ih (max n (a + 1))
      refine ⟨Nat.le_trans (by omega) h1, fun x hx => ?_⟩
      rcases List.mem_cons.mp hx with rfl | hx
      · exact Nat.le_trans (by omega) h1
      · exact h2 x hx
  exact (gen f 0).2 x (List.mem_of_getElem? h)
theorem cover_len : ∀ (n : Nat) (l : List Nat), (∀ c, c < n → c ∈ l) → n ≤ l.length
  | 0, _, _ => Nat.zero_le _
  | n + 1, l, h => by
    have hn := h n (Nat.lt_succ_self n)
    have := cover_len n (l.erase n) fun c hc => (List.mem_erase_of_ne (by omega)).mpr (h c (by omega))
    rw [List.length_erase_of_mem hn] at this
    have := List.length_pos_of_mem hn
    omega
/-- as many told numbers as there are, each is told -/
theorem nodup_of_cover : ∀ (n : Nat) (l : List Nat), l.length = n → (∀ c, c < n → c ∈ l) → l.Nodup
  | 0, l, hl, _ => by rw [List.length_eq_zero_iff.mp hl]; exact List.nodup_nil
  | n + 1, l, hl, h => by
    have hn := h n (Nat.lt_succ_self n)
    have p := List.perm_cons_erase hn
    have hl2 : (l.erase n).length = n := by rw [List.length_erase_of_mem hn, hl]; rfl
    have ih := nodup_of_cover n (l.erase n) hl2 fun c hc => (List.mem_erase_of_ne (by omega)).mpr (h c (by omega))
    refine p.nodup_iff.mpr (List.nodup_cons.mpr ⟨fun hm => ?_, ih⟩)
    -- n would be among n numbers that all are below n
    have sub : ∀ c, c < n → c ∈ (l.erase n).erase n := fun c hc => (List.mem_erase_of_ne (by omega)).mpr ((List.mem_erase_of_ne (by omega)).mpr (h c (by omega)))
    have hl3 : ((l.erase n).erase n).length = n - 1 := by rw [List.length_erase_of_mem hm, hl2]
    have := cover_len n _ sub
    have n0 : 0 < n := by
      have := List.length_pos_of_mem hm
      omega
    omega
end SWL
set_option Elab.async false
set_option linter.all false
set_option maxRecDepth 100000
set_option maxHeartbeats 4000000
namespace SWL
open PySem PySem.Spec PyProof.Rows L2 LamX
/-! classes of stands, finer from turn to turn; the least rows -/
def gd (f : List Nat) (i : Nat) : Nat := f.getD i 0
theorem gd_of {f : List Nat} {i x : Nat} (h : f[i]? = some x) : gd f i = x := by unfold gd; rw [List.getD_eq_getElem?_getD, h]; rfl
theorem gd_at {f : List Nat} {i : Nat} (h : i < f.length) : f[i]? = some (gd f i) := by rw [gd_of (List.getElem?_eq_getElem h)]; exact List.getElem?_eq_getElem h
def keyOf (cl : List Nat) (a : Nat) (r : Rw) : List Nat := a :: r.2.map (gd cl)
def keysOf (cl : List Nat) (R : List Rw) : List (List Nat) := (cl.zip R).map fun p => keyOf cl p.1 p.2
def finerOf (cl : List Nat) (R : List Rw) : List Nat := (numsK (keysOf cl R)).2
def manyOf (cl : List Nat) (R : List Rw) : Nat := (numsK (keysOf cl R)).1.length
theorem keysOf_at {cl : List Nat} {R : List Rw} (hl : cl.length = R.length) {i : Nat} {r : Rw} (h : R[i]? = some r) : (keysOf cl R)[i]? = some (keyOf cl (gd cl i) r) := by
  have hi := (List.getElem?_eq_some_iff.mp h).1
  unfold keysOf
  rw [List.getElem?_map, List.getElem?_zip_eq_some (z := (gd cl i, r)) |>.mpr ⟨gd_at (by omega), h⟩]
  rfl
theorem keysOf_len {cl : List Nat} {R : List Rw} (hl : cl.length = R.length) : (keysOf cl R).length = R.length := by
  unfold keysOf
  rw [List.length_map, List.length_zip, hl, Nat.min_self]
theorem numsK_le {α : Type} [DecidableEq α] : ∀ ks : List α, (numsK ks).1.length ≤ ks.length := by
  refine snoc_ind' (Nat.le_refl _) fun ks k ih => ?_
  rw [numsK_snoc, List.length_append, List.length_singleton]
  unfold numK
  by_cases c : k ∈ (numsK ks).1
  · rw [if_pos c]
    exact Nat.le_succ_of_le ih
  · rw [if_neg c]
    show ((numsK ks).1 ++ [k]).length ≤ _
    rw [List.length_append, List.length_singleton]
    omega
/-- from both the same words lead to ends -/
def Fut (m : Nat) (R : List Rw) (i j : Nat) : Prop := ∀ w : List Nat, (∀ a ∈ w, a < m) → tkR R i w = tkR R j w
theorem Fut.step {m : Nat} {R : List Rw} {i j a : Nat} (h : Fut m R i j) (ha : a < m) : Fut m R (toR R i a) (toR R j a) := fun w hw => h (a :: w) fun b hb => (List.mem_cons.mp hb).elim (fun e => e ▸ ha) (hw b)
structure ClOk (R : List Rw) (cl : List Nat) (many : Nat) : Prop where
  len : cl.length = R.length
  ends : ∀ i j, i < R.length → j < R.length → gd cl i = gd cl j → acR R i = acR R j
  cov : ∀ c, c < many → c ∈ cl
  fut : ∀ m, WfR m R → ∀ i j, i < R.length → j < R.length → Fut m R i j → gd cl i = gd cl j
def cl0 (R : List Rw) : List Nat := R.map fun r => if r.1 = true then 1 else 0
theorem clOk0 (R : List Rw) : ClOk R (cl0 R) 0 := by
  have q : ∀ k, k < R.length → gd (cl0 R) k = if acR R k = true then 1 else 0 := fun k hk => by
    refine gd_of ?_
    unfold cl0
    rw [List.getElem?_map, List.getElem?_eq_getElem hk, acR_of (List.getElem?_eq_getElem hk)]
    rfl
  refine ⟨by unfold cl0; rw [List.length_map], fun i j hi hj e => ?_, fun c h => absurd h (Nat.not_lt_zero c), fun m W i j hi hj h => ?_⟩
  · rw [q i hi, q j hj] at e
    cases h1 : acR R i <;> cases h2 : acR R j <;> rw [h1, h2] at e <;> first | rfl | exact absurd e (by decide)
  · have h0 : acR R i = acR R j := h [] fun a ha => absurd ha List.not_mem_nil
    rw [q i hi, q j hj, h0]
theorem heads_cov {R : List Rw} {cl : List Nat} {many : Nat} (C : ClOk R cl many) : ∀ c, c < many → c ∈ (numsK (keysOf cl R)).1.map fun k => k.headD 0 := fun c hc => by
  obtain ⟨i, hi⟩ := List.getElem?_of_mem (C.cov c hc)
  have hl := (List.getElem?_eq_some_iff.mp hi).1
  rw [C.len] at hl
  have hr : R[i]? = some R[i] := List.getElem?_eq_getElem hl
  obtain ⟨x, _, h2⟩ := (numOk (keysOf cl R)).at_ i _ (keysOf_at C.len hr)
  rw [gd_of hi] at h2
  exact List.mem_map.mpr ⟨_, List.mem_of_getElem? h2, rfl⟩
theorem many_le {R : List Rw} {cl : List Nat} {many : Nat} (C : ClOk R cl many) : many ≤ manyOf cl R := by
  have := cover_len many _ (heads_cov C)
  rwa [List.length_map] at this
theorem many_max {R : List Rw} {cl : List Nat} (hl : cl.length = R.length) : manyOf cl R ≤ R.length := by
  have := numsK_le (keysOf cl R)
  rw [keysOf_len hl] at this
  exact this
theorem many_pos {R : List Rw} {cl : List Nat} (hl : cl.length = R.length) (hp : 0 < R.length) : 0 < manyOf cl R := by
  obtain ⟨x, _, h⟩ := (numOk (keysOf cl R)).at_ 0 _ (keysOf_at hl (List.getElem?_eq_getElem hp))
  have := (List.getElem?_eq_some_iff.mp h).1
  unfold manyOf
  omega
theorem finer_at {R : List Rw} {cl : List Nat} (hl : cl.length = R.length) : (finerOf cl R).length = R.length := by
  have := (numOk (keysOf cl R)).len
  rw [keysOf_len hl] at this
  exact this
/-- alike by the finer classes: alike by the classes, and whatever letter leads on -/
theorem finer_same {m : Nat} {R : List Rw} {cl : List Nat} (W : WfR m R) (hl : cl.length = R.length) {i j : Nat} (hi : i < R.length) (hj : j < R.length) (e : gd (finerOf cl R) i = gd (finerOf cl R) j) :
    gd cl i = gd cl j ∧ ∀ a, a < m → gd cl (toR R i a) = gd cl (toR R j a) := by
  have fl := finer_at (cl := cl) hl
  obtain ⟨r, hr, lr⟩ := W.row hi
  obtain ⟨q, hq, lq⟩ := W.row hj
  have e2 : (numsK (keysOf cl R)).2[i]? = (numsK (keysOf cl R)).2[j]? := by
    have h1 := gd_at (f := finerOf cl R) (i := i) (by rw [fl]; exact hi)
    have h2 := gd_at (f := finerOf cl R) (i := j) (by rw [fl]; exact hj)
    rw [e] at h1
    exact h1.trans h2.symm
  have ek := (numOk (keysOf cl R)).same (keysOf_at hl hr) (keysOf_at hl hq) e2
  unfold keyOf at ek
  obtain ⟨k1, k2⟩ := List.cons.inj ek
  refine ⟨k1, fun a ha => ?_⟩
  have h1 := (W.to hi ha).2 r hr
  have h2 := (W.to hj ha).2 q hq
  have h3 : (r.2.map (gd cl))[a]? = (q.2.map (gd cl))[a]? := by rw [k2]
  rw [List.getElem?_map, List.getElem?_map, h1, h2] at h3
  exact Option.some.inj h3
theorem clOk_finer {m : Nat} {R : List Rw} {cl : List Nat} {many : Nat} (W : WfR m R) (C : ClOk R cl many) : ClOk R (finerOf cl R) (manyOf cl R) := by
  refine ⟨finer_at C.len, fun i j hi hj e => C.ends i j hi hj (finer_same W C.len hi hj e).1, fun c hc => ?_, fun m' W' i j hi hj h => ?_⟩
  rotate_left
  · obtain ⟨r, hr, lr⟩ := W'.row hi
    obtain ⟨q, hq, lq⟩ := W'.row hj
    have e1 := C.fut m' W' i j hi hj h
    have e2 : keyOf cl (gd cl i) r = keyOf cl (gd cl j) q := by
      unfold keyOf
      rw [e1]
      congr 1
      refine List.ext_getElem? fun a => ?_
      rw [List.getElem?_map, List.getElem?_map]
      by_cases ha : a < m'
      · rw [(W'.to hi ha).2 r hr, (W'.to hj ha).2 q hq]
        show some _ = some _
        rw [C.fut m' W' _ _ (W'.to hi ha).1 (W'.to hj ha).1 (h.step ha)]
      · rw [List.getElem?_eq_none (by omega), List.getElem?_eq_none (by omega)]
    have k1 := keysOf_at C.len hr
    have k2 := keysOf_at C.len hq
    rw [e2] at k1
    obtain ⟨x, p1, q1⟩ := (numOk (keysOf cl R)).at_ i _ k1
    obtain ⟨y, p2, q2⟩ := (numOk (keysOf cl R)).at_ j _ k2
    have hx := List.getElem?_eq_some_iff.mp q1
    have hy := List.getElem?_eq_some_iff.mp q2
    have exy : x = y := (List.getElem_inj (numOk (keysOf cl R)).nd).mp (hx.2.trans hy.2.symm)
    have a1 : gd (finerOf cl R) i = x := gd_of p1
    have a2 : gd (finerOf cl R) j = y := gd_of p2
    rw [a1, a2, exy]
  have N := numOk (keysOf cl R)
  have hc : c < (numsK (keysOf cl R)).1.length := hc
  have h1 : (numsK (keysOf cl R)).1[c]? = some (numsK (keysOf cl R)).1[c] := List.getElem?_eq_getElem hc
  obtain ⟨i, hi⟩ := List.getElem?_of_mem (N.sub _ (List.mem_of_getElem? h1))
  obtain ⟨x, p, q⟩ := N.at_ i _ hi
  have hx := List.getElem?_eq_some_iff.mp q
  have : x = c := (List.getElem_inj N.nd).mp hx.2
  rw [this] at p
  exact List.mem_of_getElem? p
/-- no more classes than before: the finer ones are these -/
theorem finer_back {m : Nat} {R : List Rw} {cl : List Nat} {many : Nat} (W : WfR m R) (C : ClOk R cl many) (hm : manyOf cl R = many) {i j : Nat} (hi : i < R.length) (hj : j < R.length) (e : gd cl i = gd cl j) : gd (finerOf cl R) i = gd (finerOf cl R) j := by
  have N := numOk (keysOf cl R)
  have nd : ((numsK (keysOf cl R)).1.map fun k => k.headD 0).Nodup := nodup_of_cover many _ (by rw [List.length_map]; exact hm) (heads_cov C)
  obtain ⟨r, hr, lr⟩ := W.row hi
  obtain ⟨q, hq, lq⟩ := W.row hj
  obtain ⟨x, p1, q1⟩ := N.at_ i _ (keysOf_at C.len hr)
  obtain ⟨y, p2, q2⟩ := N.at_ j _ (keysOf_at C.len hq)
  have g1 : ((numsK (keysOf cl R)).1.map fun k => k.headD 0)[x]? = some (gd cl i) := by rw [List.getElem?_map, q1]; rfl
  have g2 : ((numsK (keysOf cl R)).1.map fun k => k.headD 0)[y]? = some (gd cl j) := by rw [List.getElem?_map, q2]; rfl
  rw [← e] at g2
  have hx := List.getElem?_eq_some_iff.mp g1
  have hy := List.getElem?_eq_some_iff.mp g2
  have : x = y := (List.getElem_inj nd).mp (hx.2.trans hy.2.symm)
  have a1 : gd (finerOf cl R) i = x := gd_of p1
  have a2 : gd (finerOf cl R) j = y := gd_of p2
  rw [a1, a2, this]
/-- classes that nothing parts -/
structure Whole (R : List Rw) (m : Nat) (f : List Nat) : Prop where
  len : f.length = R.length
  ends : ∀ i j, i < R.length → j < R.length → gd f i = gd f j → acR R i = acR R j
  tos : ∀ i j, i < R.length → j < R.length → gd f i = gd f j → ∀ a, a < m → gd f (toR R i a) = gd f (toR R j a)
  app : FirstApp f
  cnt : cntF f ≤ R.length
  fut : ∀ m', WfR m' R → ∀ i j, i < R.length → j < R.length → Fut m' R i j → gd f i = gd f j
theorem whole_of {m : Nat} {R : List Rw} {cl : List Nat} {many : Nat} (W : WfR m R) (C : ClOk R cl many) (hm : manyOf cl R = many) : Whole R m (finerOf cl R) := by
  refine ⟨finer_at C.len, (clOk_finer W C).ends, fun i j hi hj e a ha => ?_, (numOk (keysOf cl R)).app, ?_, (clOk_finer W C).fut⟩
  · exact finer_back W C hm (W.to hi ha).1 (W.to hj ha).1 ((finer_same W C.len hi hj e).2 a ha)
  · have : cntF (finerOf cl R) = manyOf cl R := (numOk (keysOf cl R)).cnt
    rw [this]
    exact many_max C.len
/-! the least rows -/
def rowBy (f : List Nat) (r : Rw) : Rw := (r.1, r.2.map (gd f))
def lrStep (f : List Nat) (acc : List Rw) (p : Nat × Rw) : List Rw := if p.1 = acc.length then acc ++ [rowBy f p.2] else acc
def leastRowsF (f : List Nat) (R : List Rw) : List Rw := (f.zip R).foldl (lrStep f) []
theorem row_alike {m : Nat} {R : List Rw} {f : List Nat} (W : WfR m R) (w : Whole R m f) {i j : Nat} {r q : Rw} (hr : R[i]? = some r) (hq : R[j]? = some q) (e : gd f i = gd f j) : rowBy f r = rowBy f q := by
  have hi := (List.getElem?_eq_some_iff.mp hr).1
  have hj := (List.getElem?_eq_some_iff.mp hq).1
  have e1 := w.ends i j hi hj e
  rw [acR_of hr, acR_of hq] at e1
  unfold rowBy
  rw [e1]
  congr 1
  refine List.ext_getElem? fun a => ?_
  rw [List.getElem?_map, List.getElem?_map]
  by_cases ha : a < m
  · have h1 := (W.to hi ha).2 r hr
    have h2 := (W.to hj ha).2 q hq
    rw [h1, h2]
    exact congrArg some (w.tos i j hi hj e a ha)
  · rw [List.getElem?_eq_none (by rw [W.len i r hr]; omega), List.getElem?_eq_none (by rw [W.len j q hq]; omega)]
theorem leastRows_pre {m : Nat} {R : List Rw} {f : List Nat} (W : WfR m R) (w : Whole R m f) : ∀ n, n ≤ R.length →
    (((f.zip R).take n).foldl (lrStep f) []).length = cntF (f.take n) ∧ ∀ i r, i < n → R[i]? = some r → (((f.zip R).take n).foldl (lrStep f) [])[gd f i]? = some (rowBy f r) := by
  intro n
  induction n with
  | zero => exact fun _ => ⟨rfl, fun i r h => absurd h (Nat.not_lt_zero i)⟩
  | succ n ih =>
    intro hn
    obtain ⟨h1, h2⟩ := ih (by omega)
    obtain ⟨r, hr, _⟩ := W.row (show n < R.length by omega)
    have hf : f[n]? = some (gd f n) := gd_at (by rw [w.len]; omega)
    have hz : (f.zip R)[n]? = some (gd f n, r) := List.getElem?_zip_eq_some.mpr ⟨hf, hr⟩
    have tz : (f.zip R).take (n + 1) = (f.zip R).take n ++ [(gd f n, r)] := by rw [List.take_add_one, hz]; rfl
    have tf : f.take (n + 1) = f.take n ++ [gd f n] := by rw [List.take_add_one, hf]; rfl
    rw [tz, List.foldl_append]
    show (lrStep f (((f.zip R).take n).foldl (lrStep f) []) (gd f n, r)).length = _ ∧ ∀ i q, i < n + 1 → R[i]? = some q → (lrStep f (((f.zip R).take n).foldl (lrStep f) []) (gd f n, r))[gd f i]? = some (rowBy f q)
    generalize ((f.zip R).take n).foldl (lrStep f) [] = L at h1 h2 ⊢
    have ap := w.app n _ hf
    rw [tf, cntF_snoc]
    unfold lrStep
    by_cases c : gd f n = L.length
    · have c' : (gd f n, r).1 = L.length := c
      rw [if_pos c']
      refine ⟨by rw [List.length_append, List.length_singleton]; omega, fun i q hi hq => ?_⟩
      by_cases hin : i < n
      · have := h2 i q hin hq
        rw [List.getElem?_append_left (List.getElem?_eq_some_iff.mp this).1]
        exact this
      · obtain rfl : i = n := by omega
        rw [hr] at hq
        rw [← Option.some.inj hq, c, List.getElem?_append_right (Nat.le_refl _), Nat.sub_self]
        rfl
    · have c' : ¬ (gd f n, r).1 = L.length := c
      rw [if_neg c']
      refine ⟨by omega, fun i q hi hq => ?_⟩
      by_cases hin : i < n
      · exact h2 i q hin hq
      · obtain rfl : i = n := by omega
        -- the class was met before
        have lt : gd f i < cntF (f.take i) := by omega
        have met : ∀ k, k ≤ i → gd f i < cntF (f.take k) → ∃ j, j < k ∧ gd f j = gd f i := by
          intro k
          induction k with
          | zero => exact fun _ h => absurd h (Nat.not_lt_zero _)
          | succ k ihk =>
            intro hk h
            have hfk : f[k]? = some (gd f k) := gd_at (by rw [w.len]; omega)
            have apk := w.app k _ hfk
            have tfk : f.take (k + 1) = f.take k ++ [gd f k] := by rw [List.take_add_one, hfk]; rfl
            rw [tfk, cntF_snoc] at h
            by_cases d : gd f i < cntF (f.take k)
            · obtain ⟨j, j1, j2⟩ := ihk (by omega) d
              exact ⟨j, by omega, j2⟩
            · exact ⟨k, Nat.lt_succ_self k, by omega⟩
        obtain ⟨j, j1, j2⟩ := met i (Nat.le_refl _) lt
        obtain ⟨p, hp, _⟩ := W.row (show j < R.length by omega)
        have := h2 j p j1 hp
        rw [j2, row_alike W w hp hq j2] at this
        exact this
theorem leastRows_ok {m : Nat} {R : List Rw} {f : List Nat} (W : WfR m R) (w : Whole R m f) : WfR m (leastRowsF f R) ∧ (leastRowsF f R).length ≤ R.length ∧ Along m R (leastRowsF f R) (gd f) ∧ gd f 0 = 0 := by
  have zl : (f.zip R).length = R.length := by rw [List.length_zip, w.len, Nat.min_self]
  obtain ⟨h1, h2⟩ := leastRows_pre W w R.length (Nat.le_refl _)
  rw [show (f.zip R).take R.length = f.zip R by rw [← zl, List.take_length], show f.take R.length = f by rw [← w.len, List.take_length]] at h1
  rw [show (f.zip R).take R.length = f.zip R by rw [← zl, List.take_length]] at h2
  have h1 : (leastRowsF f R).length = cntF f := h1
  have h2 : ∀ i r, i < R.length → R[i]? = some r → (leastRowsF f R)[gd f i]? = some (rowBy f r) := h2
  have lt : ∀ i, i < R.length → gd f i < (leastRowsF f R).length := fun i hi => by rw [h1]; exact cntF_le (gd_at (by rw [w.len]; exact hi))
  have z0 : gd f 0 = 0 := by
    have := w.app 0 _ (gd_at (by rw [w.len]; exact W.pos))
    have e : cntF (f.take 0) = 0 := rfl
    omega
  -- every row is some stand's
  have each : ∀ c q, (leastRowsF f R)[c]? = some q → ∃ i r, R[i]? = some r ∧ q = rowBy f r := fun c q hq => by
    have mem : ∀ (l : List (Nat × Rw)) (acc : List Rw), (∀ p ∈ l, ∃ i : Nat, R[i]? = some p.2) → (∀ q ∈ acc, ∃ (i : Nat) (r : Rw), R[i]? = some r ∧ q = rowBy f r) → ∀ q ∈ l.foldl (lrStep f) acc, ∃ (i : Nat) (r : Rw), R[i]? = some r ∧ q = rowBy f r := by
      intro l
      induction l with
      | nil => exact fun acc _ h => h
      | cons p l ih =>
        intro acc hl ha
        refine ih _ (fun x hx => hl x (List.mem_cons_of_mem _ hx)) fun q hq => ?_
        unfold lrStep at hq
        by_cases c : p.1 = acc.length
        · rw [if_pos c] at hq
          rcases List.mem_append.mp hq with h | h
          · exact ha q h
          · obtain ⟨i, hi⟩ := hl p List.mem_cons_self
            exact ⟨i, p.2, hi, List.mem_singleton.mp h⟩
        · rw [if_neg c] at hq
          exact ha q hq
    refine mem (f.zip R) [] (fun p hp => ?_) (fun q h => by cases h) q (List.mem_of_getElem? hq)
    exact List.getElem?_of_mem (List.of_mem_zip hp).2
  refine ⟨⟨by have := lt 0 W.pos; omega, fun c q hq => ?_, fun c q hq j t ht => ?_⟩, by rw [h1]; exact w.cnt, fun i hi => ?_, z0⟩
  · obtain ⟨i, r, hr, rfl⟩ := each c q hq
    show (r.2.map (gd f)).length = m
    rw [List.length_map, W.len i r hr]
  · obtain ⟨i, r, hr, rfl⟩ := each c q hq
    have ht : (r.2.map (gd f))[j]? = some t := ht
    rw [List.getElem?_map] at ht
    cases e : r.2[j]? with
    | none => rw [e] at ht; cases ht
    | some u =>
      rw [e] at ht
      rw [← Option.some.inj ht]
      exact lt u (W.lt i r hr j u e)
  · obtain ⟨r, hr, lr⟩ := W.row hi
    have hq := h2 i r hi hr
    refine ⟨lt i hi, ?_, fun j hj => ⟨(W.to hi hj).1, ?_⟩⟩
    · rw [acR_of hq, acR_of hr]
      rfl
    · have h3 := (W.to hi hj).2 r hr
      refine (toR_of hq (t := gd f (toR R i j)) ?_).symm
      show (r.2.map (gd f))[j]? = _
      rw [List.getElem?_map, h3]
      rfl
end SWL
set_option Elab.async false
set_option linter.all false
set_option maxRecDepth 100000
set_option maxHeartbeats 4000000
namespace SWL
open PySem PySem.Spec PyProof.Rows L2 LamX
/-- letters' places -/
def wi (ls : List Nat) (w : Str) : List Nat := w.cps.toList.map ls.idxOf
/-- whether the machine takes it from the stand s on -/
def Tk (ls : List Nat) (R : List Rw) (s : Nat) (w : Str) : Prop := tkR R s (wi ls w) = true
def OfL (ls : List Nat) (w : Str) : Prop := ∀ c ∈ w.cps.toList, c ∈ ls
theorem wi_lt {ls : List Nat} {w : Str} (h : OfL ls w) : ∀ j ∈ wi ls w, j < ls.length := fun j hj => by
  obtain ⟨c, hc, rfl⟩ := List.mem_map.mp hj
  exact List.idxOf_lt_length_of_mem (h c hc)
/-- as many unlike numbers below n as n at most -/
theorem nodup_below : ∀ (n : Nat) (l : List Nat), l.Nodup → (∀ x ∈ l, x < n) → l.length ≤ n
  | 0, l, _, h => by
    cases l with
    | nil => exact Nat.le_refl _
    | cons a l => exact absurd (h a List.mem_cons_self) (Nat.not_lt_zero _)
  | n + 1, l, nd, h => by
    have := nodup_below n (l.erase n) (nd.erase _) fun x hx => by
      have h1 := h x (List.mem_of_mem_erase hx)
      have : x ≠ n := fun e => by
        rw [e] at hx
        exact nd.not_mem_erase hx
      omega
    have h2 : l.length ≤ (l.erase n).length + 1 := by
      rw [List.length_erase]
      split <;> omega
    omega
/-- unlike words among others are no more than these -/
theorem nodup_sub_len {α : Type} [DecidableEq α] : ∀ (l m : List α), l.Nodup → (∀ x ∈ l, x ∈ m) → l.length ≤ m.length
  | [], _, _, _ => Nat.zero_le _
  | a :: l, m, nd, h => by
    obtain ⟨n1, n2⟩ := List.nodup_cons.mp nd
    have ha := h a List.mem_cons_self
    have := nodup_sub_len l (m.erase a) n2 fun x hx => (List.mem_erase_of_ne (fun e => n1 (by rw [← e]; exact hx))).mpr (h x (List.mem_cons_of_mem _ hx))
    rw [List.length_erase_of_mem ha] at this
    have := List.length_pos_of_mem ha
    rw [List.length_cons]
    omega
end SWL
set_option Elab.async false
set_option linter.all false
set_option maxRecDepth 100000
set_option maxHeartbeats 8000000
namespace SWL
open PySem PySem.Spec PyProof.Rows L2 LamX
/-! machines as objects -/
def inClass (s : Stmt) (i : Nat) : Stmt := match s with
  | .ClassDef _ _ _ body .. => body.getD i (.Pass ⟨0, 0, 0, 0⟩)
  | _ => .Pass ⟨0, 0, 0, 0⟩
abbrev sMInit : Stmt := inClass sMachine 0
abbrev sMLet : Stmt := inClass sMachine 1
abbrev sMRow : Stmt := inClass sMachine 2
def RowAt (H : Hp) (v : V) (r : Rw) : Prop := ∃ a t, v = .ref a ∧ H a = some (.tup [.bl r.1, .ref t]) ∧ H t = some (.tup (r.2.map nV))
structure RowsAt (H : Hp) (vs : List V) (R : List Rw) : Prop where
  len : vs.length = R.length
  at_ : ∀ (k : Nat) (v : V) (r : Rw), vs[k]? = some v → R[k]? = some r → RowAt H v r
theorem RowAt.grows {H H' : Hp} (g : Grows H H') {v : V} {r : Rw} (h : RowAt H v r) : RowAt H' v r := by
  obtain ⟨a, t, h1, h2, h3⟩ := h
  exact ⟨a, t, h1, g _ _ h2, g _ _ h3⟩
theorem RowsAt.grows {H H' : Hp} (g : Grows H H') {vs : List V} {R : List Rw} (h : RowsAt H vs R) : RowsAt H' vs R := ⟨h.len, fun k v r h1 h2 => (h.at_ k v r h1 h2).grows g⟩
theorem RowAt.put {H : Hp} {D : Addr} {xs ys : List V} (hD : H D = some (.lst xs)) {v : V} {r : Rw} (h : RowAt H v r) : RowAt (upd H D (.lst ys)) v r := by
  obtain ⟨a, t, h1, h2, h3⟩ := h
  exact ⟨a, t, h1, by rw [upd_ne (ne_of h2 hD (by intro z; cases z))]; exact h2, by rw [upd_ne (ne_of h3 hD (by intro z; cases z))]; exact h3⟩
theorem RowsAt.put {H : Hp} {D : Addr} {xs ys : List V} (hD : H D = some (.lst xs)) {vs : List V} {R : List Rw} (h : RowsAt H vs R) : RowsAt (upd H D (.lst ys)) vs R := ⟨h.len, fun k v r h1 h2 => (h.at_ k v r h1 h2).put hD⟩
theorem RowsAt.snoc {H : Hp} {vs : List V} {R : List Rw} (h : RowsAt H vs R) {v : V} {r : Rw} (hv : RowAt H v r) : RowsAt H (vs ++ [v]) (R ++ [r]) := by
  refine ⟨by rw [List.length_append, List.length_append, h.len]; rfl, fun k x q h1 h2 => ?_⟩
  by_cases c : k < vs.length
  · rw [List.getElem?_append_left c] at h1
    rw [List.getElem?_append_left (by rw [← h.len]; exact c)] at h2
    exact h.at_ k x q h1 h2
  · have hk := (List.getElem?_eq_some_iff.mp h1).1
    rw [List.length_append, List.length_singleton] at hk
    have h0 : k - vs.length = 0 := by omega
    rw [List.getElem?_append_right (by omega), h0] at h1
    rw [List.getElem?_append_right (by rw [← h.len]; omega), ← h.len, h0] at h2
    rw [← Option.some.inj h1, ← Option.some.inj h2]
    exact hv
/-- the instance's fields -/
def mcf (ls : Str) (L : Addr) : List (Str × V) := putF "stand_rows" (.ref L) (putF "letters_told" (.str ls) [])
theorem sr_lt : ¬ (("stand_rows" : Str) = "letters_told") := by decide +kernel
theorem lt_sr : ¬ (("letters_told" : Str) = "stand_rows") := by decide +kernel
theorem mcf_let (ls : Str) (L : Addr) : (mcf ls L).lookup ("letters_told" : Str) = some (.str ls) := by
  unfold mcf
  rw [lookup_putF, if_neg lt_sr, lookup_putF, if_pos rfl]
theorem mcf_row (ls : Str) (L : Addr) : (mcf ls L).lookup ("stand_rows" : Str) = some (.ref L) := by
  unfold mcf
  rw [lookup_putF, if_pos rfl]
theorem mcf_no (ls : Str) (L : Addr) {m : Str} (h1 : ¬ m = "stand_rows") (h2 : ¬ m = "letters_told") : (mcf ls L).lookup m = none := by
  unfold mcf
  rw [lookup_putF, if_neg h1, lookup_putF, if_neg h2]
  rfl
/-- the class -/
structure McC (K : PySem.W.Frag) (mg : Str → Option Value) (C fL fR : Addr) : Prop where
  cl : Cls K C
  nL : NoAttr K C "letters_told"
  nR : NoAttr K C "stand_rows"
  mL : Meth K C "letters" fL
  mR : Meth K C "rows" fR
/-- a machine as it lies -/
structure MachAt (H : Hp) (x C : Addr) (ls : Str) (R : List Rw) : Prop where
  obj : ∃ dx L vs, H x = some (.ins C dx (mcf ls L)) ∧ H L = some (.lst vs) ∧ RowsAt H vs R
theorem MachAt.grows {H H' : Hp} (g : Grows H H') {x C : Addr} {ls : Str} {R : List Rw} (h : MachAt H x C ls R) : MachAt H' x C ls R := by
  obtain ⟨dx, L, vs, h1, h2, h3⟩ := h.obj
  exact ⟨dx, L, vs, g _ _ h1, g _ _ h2, h3.grows g⟩
abbrev NSt : List Str := ["thing", "many", "size", "to"]
abbrev NMi : List Str := ["self", "letters", "rows", "row"]
def spIsStand (K : PySem.W.Frag) : Sp := fun vs H Q _ => ∃ (v : V) (n m : Nat) (r : Rw), vs = [v, .int ((n : Nat) : Int), .int ((m : Nat) : Int)] ∧ RowAt H v r ∧ r.2.length = m ∧ (∀ t ∈ r.2, t < n) ∧ m ≤ 1000 ∧ ∀ H', Grows H H' → Q (.bl true) H'
def spMInit (K : PySem.W.Frag) (C : Addr) : Sp := fun vs H Q _ => ∃ (x dx l : Addr) (ls : Str) (ws : List V) (R : List Rw), vs = [.ref x, .str ls, .ref l] ∧ H x = some (.ins C dx []) ∧ okLetters ls = true ∧ ls.length ≤ 1000 ∧ H l = some (.lst ws) ∧ RowsAt H ws R ∧ WfR ls.length R ∧ R.length ≤ 60 ∧
  ∀ (H' : Hp) (L : Addr), H' x = some (.ins C dx (mcf ls L)) → H L = none → L ≠ x → H' L = some (.lst ws) → (∀ c o, c ≠ x → H c = some o → H' c = some o) → Q .non H'
def spMLet (C : Addr) : Sp := fun vs H Q _ => ∃ (x : Addr) (ls : Str) (R : List Rw), vs = [.ref x] ∧ MachAt H x C ls R ∧ Q (.str ls) H
def spMRow (C : Addr) : Sp := fun vs H Q _ => ∃ (x : Addr) (ls : Str) (R : List Rw), vs = [.ref x] ∧ MachAt H x C ls R ∧ ∀ (D : Addr) (ws : List V), H D = none → RowsAt H ws R → Q (.ref D) (upd H D (.lst ws))
theorem all_yes {α : Type} (l : List α) : (l.map fun _ => true).all id = true := by
  induction l with
  | nil => rfl
  | cons a l ih => rw [List.map_cons, List.all_cons, ih]; rfl
theorem bl_yes {α : Type} (l : List α) : some (HO.lst (l.map fun _ => V.bl true)) = some (HO.lst ((l.map fun _ => true).map V.bl)) := by
  rw [List.map_map]; rfl
section
variable {P : Program} {w : World} {K : PySem.W.Frag} {mg : Str → Option Value} {base : Heap}
theorem scIsStand : FnScope NSt ["thing", "many", "size"] (defScope sIsStand) := ⟨rfl, rfl, rfl, by decide +kernel, rfl, by decide +kernel, by decide +kernel⟩
theorem ok_isStand {f fN : Addr} {fd fdN : FuncData} (F : L2.Fun K "is_stand" "is_stand" sIsStand f fd) (B : Blt mg) (GN : FnOk P w K mg base CX0 1 fN fdN ["thing", "least", "most"] (spIsNum K)) (DN : Def mg K "is_number" fN fdN ["thing", "least", "most"]) :
    FnOk P w K mg base CX0 2 f fd ["thing", "many", "size"] (spIsStand K) := by
  refine F.ok scIsStand (fun vs H Q E h => ?_) (fun cdv A outer s H vs Q E hr h => ⟨_,
    (pss_cons (ps_if (PW.pt (pw_or (pt_not (pt_truth (pe_callB call_isi (by rfl) B.isi (by decide +kernel) (pa_cons (pv 0) (pa_cons (pe_bltn (u := .type "tuple") (v := .ty "tuple") (by rfl) B.tuple (by decide +kernel) rfl) pa_nil))) (by intro _; rfl))) (pw_or (pt_cmpR op_ne (pe_callB call_len_seq (by rfl) B.len PySem.boot_len (pa_cons (pv 0) pa_nil)) pe_int (nomark _)) (pw_or1 (pt_not (pt_truth (pe_callB call_isi (by rfl) B.isi (by decide +kernel) (pa_cons (pe_ix ix_tup (pv 0) pe_int (fun _ _ => rfl)) (pa_cons (pe_bltn (u := .type "bool") (v := .ty "bool") (by rfl) B.bool (by decide +kernel) rfl) pa_nil))) (by intro _; rfl))))))) (pss_one (ps_ret pe_bl)) pss_nil)
      (pss_cons (ps_if (PW.pt (pw_or (pt_not (pt_truth (pe_callB call_isi (by rfl) B.isi (by decide +kernel) (pa_cons (pe_ix ix_tup (pv 0) pe_int (fun _ _ => rfl)) (pa_cons (pe_bltn (u := .type "tuple") (v := .ty "tuple") (by rfl) B.tuple (by decide +kernel) rfl) pa_nil))) (by intro _; rfl))) (pw_or1 (pt_cmpR op_ne (pe_callB call_len_seq (by rfl) B.len PySem.boot_len (pa_cons (pe_ix ix_tup (pv 0) pe_int (fun _ _ => rfl)) pa_nil)) (pv 2) (nomark _))))) (pss_one (ps_ret pe_bl)) pss_nil)
      (pss_one (ps_ret (pe_callB (cr_all rfl) (by rfl) B.all (by decide +kernel) (pa_cons (pe_lc (own := [("to", 3)]) (g := (gName 3)) (tt := tYes) (te := (tCall (spIsNum K) [] E0 (tCons (tVar 3) (tCons (tC (.int 0)) (tCons (tOp rSub (tVar 1) (tC (.int 1))) tNil))))) rfl scIsStand.nd (pi_tup (pe_ix ix_tup (pv 0) pe_int (fun _ _ => rfl))) (blkOk_by (N := NSt) (sc := defScope sIsStand) (by decide +kernel)) (fun _ _ _ _ _ => (pg_name (i := 3) scIsStand.nd rfl (Or.inl rfl))) (fun _ _ _ _ _ => pts_nil) (fun _ _ _ _ _ => (pe_call GN (hr.mono (by decide)) (by rfl) DN.g DN.k DN.b .nil pass0 (pa_cons (pv 3) (pa_cons pe_int (pa_cons (pe_op op_sub (pv 1) pe_int) pa_nil)))))) pa_nil)))))), ?_⟩)
  · obtain ⟨v, n, m, r, rfl, _⟩ := h
    rfl
  · obtain ⟨v, n, m, r, rfl, ⟨a, t, rfl, ha, ht⟩, hl, hlt, hm, q⟩ := h
    have sz : sizeLine = 16777216 := sizeLine_eq
    have sa : SqT K H a [.bl r.1, .ref t] := .inl (.inl ha)
    have st : SqT K H t (r.2.map nV) := .inl (.inl ht)
    refine ⟨_, rfl, .ref a, .ty "tuple", .type "tuple", .type "tuple", true, rfl, .ty "tuple", ty_tuple sa, kit_ty (by decide +kernel), true, rfl, if_neg_of (by decide) ?_⟩
    refine ⟨_, rfl, a, _, rfl, .inr sa, rfl, _, rfl, if_neg_of (by show ¬ (!decide (V.int ((2 : Nat) : Int) = V.int 2)) = true; decide) ?_⟩
    refine ⟨_, rfl, a, _, _, _, rfl, rfl, sa, atI_nat (j := 0) rfl, .bl r.1, .ty "bool", .type "bool", .type "bool", true, rfl, .ty "bool", .base (.bl r.1), kit_ty (by decide +kernel), true, rfl, if_neg_of (by decide) ?_⟩
    refine ⟨_, rfl, a, _, _, _, rfl, rfl, sa, atI_nat (j := 1) rfl, .ref t, .ty "tuple", .type "tuple", .type "tuple", true, rfl, .ty "tuple", ty_tuple st, kit_ty (by decide +kernel), true, rfl, if_neg_of (by decide) ?_⟩
    refine ⟨_, rfl, a, _, _, _, rfl, rfl, sa, atI_nat (j := 1) rfl, t, _, rfl, .inr st, _, rfl, rfl, _, rfl, if_neg_of (by rw [List.length_map, hl, decide_eq_true rfl]; decide) ?_⟩
    refine ⟨_, rfl, a, _, _, _, rfl, rfl, sa, atI_nat (j := 1) rfl, t, rfl, ⟨_, st⟩, fun D nD => ?_⟩
    refine comp (xs := r.2.map nV) walk_tup (fun _ => true) (fun _ => .bl true) nD (fun H' g => g.t st) (by rw [List.length_map]; omega) (fun x H k _ g hk => hk H (Grows.refl H)) (fun x H' Q hx _ g hq => ?_) (fun H' g hD => ?_)
    · obtain ⟨i, hi, rfl⟩ := List.mem_map.mp hx
      refine ⟨_, rfl, _, rfl, _, _, rfl, rfl, nV i, 0, _, rfl, .inl ⟨_, rfl, ?_⟩⟩
      have := hlt i hi
      rw [decide_eq_true (by omega)]
      exact hq H' (Grows.refl H')
    · rw [filter_yes] at hD
      refine ⟨D, (r.2.map nV).map fun _ => true, rfl, .inl (.inl (hD.trans ?_)), ?_⟩
      · exact bl_yes _
      · rw [all_yes]
        exact q H' g
theorem scMInit : FnScope NMi ["self", "letters", "rows"] (defScope sMInit) := ⟨rfl, rfl, rfl, by decide +kernel, rfl, by decide +kernel, by decide +kernel⟩
theorem ok_mInit {f fL fS fl fr C CN : Addr} {fd fdL fdS : FuncData} (F : L2.Fun K "__init__" "Machine.__init__" sMInit f fd) (B : Blt mg) (T : McC K mg C fl fr)
    (GL : FnOk P w K mg base (L2.CX P w) 3 fL fdL ["thing"] (spNeedL K CN)) (DL : Def mg K "need_letters" fL fdL ["thing"])
    (GS : FnOk P w K mg base CX0 2 fS fdS ["thing", "many", "size"] (spIsStand K)) (DS : Def mg K "is_stand" fS fdS ["thing", "many", "size"]) : FnOk P w K mg base CX0 4 f fd ["self", "letters", "rows"] (spMInit K C) := by
  refine F.ok scMInit (fun vs H Q E h => ?_) (fun cdv A outer s H vs Q E hr h => ⟨_,
    (pss_cons (ps_expr (pe_call GL (hr.mono (by decide)) (by rfl) DL.g DL.k DL.b .nil (passE0 rfl rfl) (pa_cons (pv 1) pa_nil)))
      (pss_cons (ps_if (PW.pt (pw_or (pt_not (pt_truth (pe_callB call_isiT (by rfl) B.isi (by decide +kernel) (pa_cons (pv 2) (pa_cons (pe_tup (pa_cons (pe_bltn (u := .type "list") (v := .ty "list") (by rfl) B.list (by decide +kernel) rfl) (pa_cons (pe_bltn (u := .type "tuple") (v := .ty "tuple") (by rfl) B.tuple (by decide +kernel) rfl) pa_nil))) pa_nil))) (by intro _; rfl))) (pw_or1 (pt_not (pt_chain op_le op_le pe_int (pe_callB call_len_seq (by rfl) B.len PySem.boot_len (pa_cons (pv 2) pa_nil)) (pe_glob (v := .int 60) (by rfl) B.mostS.choose_spec ⟨_, rfl⟩)))))) pss_no pss_nil)
      (pss_cons (ps_if (pt_not (pt_truth (pe_callB (cr_all rfl) (by rfl) B.all (by decide +kernel) (pa_cons (pe_lc (own := [("row", 3)]) (g := (gName 3)) (tt := tYes) (te := (tCall (spIsStand K) [] E0 (tCons (tVar 3) (tCons (tCB (fun xs H Q => ∃ p ys, xs = [.ref p] ∧ (SqL K H p ys ∨ SqT K H p ys) ∧ Q (.int (ys.length : Int)) H) (tCons (tVar 2) tNil)) (tCons (tCB (fun xs H Q => ∃ z, xs = [.str z] ∧ z.length ≤ sizeLine ∧ Q (.int z.length) H) (tCons (tVar 1) tNil)) tNil))))) rfl scMInit.nd (pi_list (pv 2)) (blkOk_by (N := NMi) (sc := defScope sMInit) (by decide +kernel)) (fun _ _ _ _ _ => (pg_name (i := 3) scMInit.nd rfl (Or.inl rfl))) (fun _ _ _ _ _ => pts_nil) (fun _ _ _ _ _ => (pe_call GS (hr.mono (by decide)) (by rfl) DS.g DS.k DS.b .nil pass0 (pa_cons (pv 3) (pa_cons (pe_callB call_len_seq (by rfl) B.len PySem.boot_len (pa_cons (pv 2) pa_nil)) (pa_cons (pe_callB call_len_str (by rfl) B.len PySem.boot_len (pa_cons (pv 1) pa_nil)) pa_nil)))))) pa_nil)) (by intro _; rfl))) pss_no pss_nil)
      (pss_cons (ps_fld (pv 0) (pv 1) rfl)
      (pss_one (ps_fld (pv 0) (pe_callTy call_list_of (by rfl) B.list (by decide +kernel) (pa_cons (pv 2) pa_nil)) rfl)))))), ?_⟩)
  · obtain ⟨x, dx, l, ls, ws, R, rfl, _⟩ := h
    rfl
  · obtain ⟨x, dx, l, ls, ws, R, rfl, hx, hok, hls, hs, hR, W, h60, q⟩ := h
    have sz : sizeLine = 16777216 := sizeLine_eq
    have hwl := hR.len
    have hp := W.pos
    have hs' : Sq K H l ws := .inl (.inl (.inl hs))
    refine ⟨_, rfl, .str ls, rfl, .inl ⟨ls, rfl, by omega, fun H1 g1 => ⟨fun _ => ?_, fun c => by rw [hok] at c; cases c⟩⟩⟩
    obtain ⟨t, ty, ka⟩ := ty_sq (g1.sq hs')
    refine ⟨_, rfl, by show 2 ≤ sizeLine; decide, fun tp ntp => ?_⟩
    have gt : Grows H1 (upd H1 tp (.tup [.ty "list", .ty "tuple"])) := Grows.new ntp
    have kt : upd H1 tp (.tup [.ty "list", .ty "tuple"]) tp = some (.tup [.ty "list", .ty "tuple"]) := upd_same
    generalize upd H1 tp (.tup [.ty "list", .ty "tuple"]) = H2 at gt kt ⊢
    have g2 := g1.trans gt
    have hl2 := g2 _ _ hs
    have hs2 : SqL K H2 l ws := .inl (.inl hl2)
    refine ⟨.ref l, tp, _, .type t, [.type "list", .type "tuple"], true, rfl, kt, .cons (.ty _) (.cons (.ty _) .nil), tyx_grows gt ty, ka, true, rfl, if_neg_of (by decide) ?_⟩
    have hR2 := hR.grows g2
    refine ⟨_, rfl, l, ws, rfl, .inl hs2, _, _, rfl, rfl, decide ((1 : Int) ≤ (ws.length : Int)), rfl, if_pos_of (decide_eq_true (by omega)) ⟨_, _, rfl, rfl, decide ((ws.length : Int) ≤ 60), rfl, if_neg_of (by rw [decide_eq_true (show (ws.length : Int) ≤ 60 by omega)]; decide) ?_⟩⟩
    -- every row
    refine ⟨_, rfl, l, rfl, ⟨_, hs2⟩, fun D nD => ?_⟩
    refine comp (xs := ws) walk_list (fun _ => true) (fun _ => .bl true) nD (fun H' g => g.l hs2) (by omega) (fun y H k _ g hk => hk H (Grows.refl H)) (fun y H' Q hy _ g hq => ?_) (fun H' g hD => ?_)
    · obtain ⟨k, hk⟩ := List.getElem?_of_mem hy
      have kl := (List.getElem?_eq_some_iff.mp hk).1
      obtain ⟨r, hr, lr⟩ := W.row (show k < R.length by omega)
      refine ⟨_, rfl, _, rfl, l, ws, rfl, .inl (g.l hs2), _, rfl, ls, rfl, by omega, y, R.length, ls.length, r, by rw [← hwl]; rfl, (hR2.at_ k y r hk hr).grows g, lr, fun t ht => ?_, by omega, hq⟩
      obtain ⟨j, hj⟩ := List.getElem?_of_mem ht
      exact W.lt k r hr j t hj
    · rw [filter_yes] at hD
      refine ⟨D, ws.map fun _ => true, rfl, .inl (.inl (hD.trans (bl_yes _))), ?_⟩
      rw [all_yes]
      refine ⟨true, rfl, if_neg_of (by decide) ?_⟩
      have g3 := g2.trans g
      have hx3 := g3 _ _ hx
      refine ⟨_, rfl, _, rfl, x, C, dx, [], rfl, hx3, T.cl, T.nL, by show 0 < 1000; decide, ?_⟩
      have hl3 := g _ _ hl2
      have lx : l ≠ x := ne_of hs hx (by intro z; cases z)
      refine ⟨_, rfl, l, ws, rfl, .inl (.inl (.inl (by rw [upd_ne lx]; exact hl3))), fun L nL => ?_⟩
      have Lx : L ≠ x := fun e => by rw [e, upd_same] at nL; cases nL
      have nL0 : H' L = none := by rw [upd_ne Lx] at nL; exact nL
      have nLH : H L = none := by
        cases e : H L with
        | none => rfl
        | some o => rw [g3 _ _ e] at nL0; cases nL0
      refine ⟨_, rfl, x, C, dx, _, rfl, by rw [upd_ne Lx.symm, upd_same], T.cl, T.nR, by show 1 < 1000; decide, ?_⟩
      refine q _ L (by rw [upd_same]; rfl) nLH Lx (by rw [upd_ne Lx, upd_same]) fun c o cx e => ?_
      have cL : c ≠ L := fun z => by rw [z, nLH] at e; cases e
      rw [upd_ne cx, upd_ne cL, upd_ne cx]
      exact g3 _ _ e
theorem scMLet : FnScope ["self"] ["self"] (defScope sMLet) := ⟨rfl, rfl, rfl, by decide +kernel, rfl, by decide +kernel, by decide +kernel⟩
theorem ok_mLet {f C fl fr : Addr} {fd : FuncData} (F : L2.Fun K "letters" "Machine.letters" sMLet f fd) (T : McC K mg C fl fr) : FnOk P w K mg base CX0 1 f fd ["self"] (spMLet C) := by
  refine F.ok scMLet (fun vs H Q E h => ?_) (fun cdv A outer s H vs Q E hr h => ⟨_,
    (pss_one (ps_ret (pe_fld (pv 0) rfl))), ?_⟩)
  · obtain ⟨x, ls, R, rfl, _⟩ := h
    rfl
  · obtain ⟨x, ls, R, rfl, M, q⟩ := h
    obtain ⟨dx, L, vs, h1, h2, h3⟩ := M.obj
    exact ⟨_, rfl, x, C, dx, _, _, rfl, h1, T.cl, T.nL, mcf_let ls L, q⟩
theorem scMRow : FnScope ["self"] ["self"] (defScope sMRow) := ⟨rfl, rfl, rfl, by decide +kernel, rfl, by decide +kernel, by decide +kernel⟩
theorem ok_mRow {f C fl fr : Addr} {fd : FuncData} (F : L2.Fun K "rows" "Machine.rows" sMRow f fd) (B : Blt mg) (T : McC K mg C fl fr) : FnOk P w K mg base CX0 1 f fd ["self"] (spMRow C) := by
  refine F.ok scMRow (fun vs H Q E h => ?_) (fun cdv A outer s H vs Q E hr h => ⟨_,
    (pss_one (ps_ret (pe_callTy call_list_of (by rfl) B.list (by decide +kernel) (pa_cons (pe_fld (pv 0) rfl) pa_nil)))), ?_⟩)
  · obtain ⟨x, ls, R, rfl, _⟩ := h
    rfl
  · obtain ⟨x, ls, R, rfl, M, q⟩ := h
    obtain ⟨dx, L, ws, h1, h2, h3⟩ := M.obj
    exact ⟨_, rfl, x, C, dx, _, _, rfl, h1, T.cl, T.nR, mcf_row ls L, L, ws, rfl, .inl (.inl (.inl h2)), fun D nD => q D ws nD h3⟩
end
end SWL
set_option Elab.async false
set_option linter.all false
set_option maxRecDepth 100000
set_option maxHeartbeats 8000000
namespace SWL
open PySem PySem.Spec PyProof.Rows L2 LamX NdefX
/-! gone_through: a walk by functions that it gets -/
/-- every stand is led to from the first one -/
def Reach (m : Nat) (R : List Rw) : Prop := ∀ i, i < R.length → ∃ w : List Nat, (∀ j ∈ w, j < m) ∧ runR R 0 w = i
def spStep (H0 : Hp) (ls : List Nat) (R : List Rw) : Sp := fun vs H Q _ => ∃ (s c : Nat), vs = [nV s, .str (sg c)] ∧ s < R.length ∧ c ∈ ls ∧ Grows H0 H ∧ ∀ H', Grows H H' → Q (nV (toR R s (ls.idxOf c))) H'
def spEnds (H0 : Hp) (R : List Rw) : Sp := fun vs H Q _ => ∃ (s : Nat), vs = [nV s] ∧ s < R.length ∧ Grows H0 H ∧ ∀ H', Grows H H' → Q (.bl (acR R s)) H'
/-- the function at f, told of the very heap, keeps sp -/
def Clo (P : Program) (w : World) (K : PySem.W.Frag) (mg : Str → Option Value) (base : Heap) (k : Nat) (h : Heap) (H : Hp) (f : Addr) (sp : Sp) : Prop := ∃ (F : NF) (ps fr : List Str) (ws : List (Option V)) (spN : List (Option V) → Sp),
  H f = some (FnO f F) ∧ H F.c = some (CodeO F.c F.qual) ∧ CellsAt F.cl fr ws h H ∧ NOk P w K mg base CX0 k f F ps fr spN ∧ ∀ vs H' Q, sp vs H' Q E0 → spN ws vs H' Q E0
def spGone (P : Program) (w : World) (K : PySem.W.Frag) (mg : Str → Option Value) (base : Heap) (k : Nat) : SpH := fun vs h H Q _ => ∃ (ls : Str) (fs fe : Addr) (b : Nat) (R : List Rw), vs = [.str ls, nV b, .ref fs, .ref fe] ∧ ls.length ≤ 1000 ∧ ls.cps.toList.Nodup ∧ WfR ls.length R ∧ R.length ≤ 1000 ∧ b < R.length ∧
  Clo P w K mg base k h H fs (spStep H ls.cps.toList R) ∧ Clo P w K mg base k h H fe (spEnds H R) ∧
  ∀ (H' : Hp) (D : Addr) (ws : List V) (R' : List Rw), Grows H H' → H D = none → H' D = some (.lst ws) → RowsAt H' ws R' → WfR ls.length R' → R'.length ≤ R.length → (∃ o, gd o 0 = b ∧ Along ls.length R' R (gd o)) → Reach ls.length R' → Q (.ref D) H'
abbrev NGo : List Str := ["letters", "begin", "step", "ends", "numbers", "order", "rows", "stand", "tos", "letter", "to"]
def NumAt (H : Hp) (N : Addr) (o : List Nat) : Prop := ∃ kvs : List (Key × V), H N = some (.dK kvs) ∧ kvs.length = o.length ∧ ∀ s : Nat, valV kvs (.inl ((s : Nat) : Int)) = if s ∈ o then some (nV (o.idxOf s)) else none
theorem NumAt.put {H : Hp} {N : Addr} {o : List Nat} {s : Nat} {kvs : List (Key × V)} (h1 : kvs.length = o.length) (h2 : ∀ s : Nat, valV kvs (.inl ((s : Nat) : Int)) = if s ∈ o then some (nV (o.idxOf s)) else none) (hs : s ∉ o) :
    NumAt (upd H N (.dK (putK kvs (.inl ((s : Nat) : Int)) (nV o.length)))) N (o ++ [s]) := by
  have e : valV kvs (.inl ((s : Nat) : Int)) = none := by rw [h2, if_neg hs]
  refine ⟨_, upd_same, by rw [putK_new _ e, List.length_append, List.length_append, h1]; rfl, fun t => ?_⟩
  rw [valV_put, h2]
  by_cases c : t = s
  · subst c
    rw [if_pos rfl, if_pos (List.mem_append_right _ List.mem_cons_self), List.idxOf_append, if_neg hs]
    congr 2
    simp
  · have c2 : ¬ (Sum.inl ((t : Nat) : Int) : Key) = .inl ((s : Nat) : Int) := fun z => c (by have := Sum.inl.inj z; omega)
    rw [if_neg c2]
    by_cases d : t ∈ o
    · rw [if_pos d, if_pos (List.mem_append_left _ d), List.idxOf_append, if_pos d]
    · rw [if_neg d, if_neg (fun z => by
        rcases List.mem_append.mp z with h | h
        · exact d h
        · exact c (List.mem_singleton.mp h))]
/-- what is met, and the rows so far -/
structure GoneAt (R : List Rw) (m b : Nat) (o : List Nat) (R' : List Rw) : Prop where
  nd : o.Nodup
  lt : ∀ s ∈ o, s < R.length
  fst : o[0]? = some b
  le : R'.length ≤ o.length
  row : ∀ (i : Nat) (r : Rw), R'[i]? = some r → ∃ s, o[i]? = some s ∧ r.1 = acR R s ∧ r.2.length = m ∧ ∀ (j t : Nat), r.2[j]? = some t → o[t]? = some (toR R s j)
  rch : ∀ s ∈ o, ∃ w : List Nat, (∀ j ∈ w, j < m) ∧ runR R b w = s
theorem GoneAt.more {R : List Rw} {m b : Nat} {o o' : List Nat} {R' : List Rw} (G : GoneAt R m b o R') (nd : o'.Nodup) (lt : ∀ s ∈ o', s < R.length) (ex : ∀ (i s : Nat), o[i]? = some s → o'[i]? = some s) (rc : ∀ s ∈ o', ∃ w : List Nat, (∀ j ∈ w, j < m) ∧ runR R b w = s) : GoneAt R m b o' R' := by
  refine ⟨nd, lt, ex _ _ G.fst, ?_, fun i r hr => ?_, rc⟩
  · have h := G.le
    by_cases c : o.length = 0
    · omega
    · have : o[o.length - 1]? = some o[o.length - 1] := List.getElem?_eq_getElem (by omega)
      have := (List.getElem?_eq_some_iff.mp (ex _ _ this)).1
      omega
  · obtain ⟨s, h1, h2, h3, h4⟩ := G.row i r hr
    exact ⟨s, ex _ _ h1, h2, h3, fun j t ht => ex _ _ (h4 j t ht)⟩
theorem GoneAt.few {R : List Rw} {m b : Nat} {o : List Nat} {R' : List Rw} (G : GoneAt R m b o R') : o.length ≤ R.length := nodup_below _ _ G.nd G.lt
theorem GoneAt.snoc {R : List Rw} {m b : Nat} {o : List Nat} {R' : List Rw} (G : GoneAt R m b o R') {s : Nat} {r : Rw} (hs : o[R'.length]? = some s) (h1 : r.1 = acR R s) (h2 : r.2.length = m) (h3 : ∀ (j t : Nat), r.2[j]? = some t → o[t]? = some (toR R s j)) : GoneAt R m b o (R' ++ [r]) := by
  have hl := (List.getElem?_eq_some_iff.mp hs).1
  refine ⟨G.nd, G.lt, G.fst, by rw [List.length_append, List.length_singleton]; omega, fun i q hq => ?_, G.rch⟩
  by_cases c : i < R'.length
  · rw [List.getElem?_append_left c] at hq
    exact G.row i q hq
  · have hi := (List.getElem?_eq_some_iff.mp hq).1
    rw [List.length_append, List.length_singleton] at hi
    have h0 : i - R'.length = 0 := by omega
    rw [List.getElem?_append_right (by omega), h0] at hq
    rw [← Option.some.inj hq, show i = R'.length by omega]
    exact ⟨s, hs, h1, h2, h3⟩
theorem GoneAt.end0 {R : List Rw} {m b : Nat} {o : List Nat} {R' : List Rw} (W : WfR m R) (G : GoneAt R m b o R') (h : o.length ≤ R'.length) : WfR m R' ∧ R'.length ≤ R.length ∧ gd o 0 = b ∧ Along m R' R (gd o) := by
  have hl : R'.length = o.length := Nat.le_antisymm G.le h
  have few := G.few
  have pos := (List.getElem?_eq_some_iff.mp G.fst).1
  refine ⟨⟨by omega, fun k r hr => ?_, fun k r hr j t ht => ?_⟩, by omega, gd_of G.fst, fun i hi => ?_⟩
  · obtain ⟨s, _, _, h3, _⟩ := G.row k r hr
    exact h3
  · obtain ⟨s, _, _, _, h4⟩ := G.row k r hr
    have := (List.getElem?_eq_some_iff.mp (h4 j t ht)).1
    omega
  · have hr : R'[i]? = some R'[i] := List.getElem?_eq_getElem hi
    obtain ⟨s, h1, h2, h3, h4⟩ := G.row i _ hr
    rw [gd_of h1]
    refine ⟨G.lt s (List.mem_of_getElem? h1), by rw [acR_of hr, h2], fun j hj => ?_⟩
    have hj2 : R'[i].2[j]? = some R'[i].2[j] := List.getElem?_eq_getElem (by omega)
    have h5 := h4 j _ hj2
    rw [toR_of hr hj2]
    exact ⟨by have := (List.getElem?_eq_some_iff.mp h5).1; omega, gd_of h5⟩
theorem GoneAt.end_ {R : List Rw} {m b : Nat} {o : List Nat} {R' : List Rw} (W : WfR m R) (G : GoneAt R m b o R') (h : o.length ≤ R'.length) : (WfR m R' ∧ R'.length ≤ R.length ∧ gd o 0 = b ∧ Along m R' R (gd o)) ∧ Reach m R' := by
  have main : WfR m R' ∧ R'.length ≤ R.length ∧ gd o 0 = b ∧ Along m R' R (gd o) := by
    exact G.end0 W h
  refine ⟨main, fun i hi => ?_⟩
  obtain ⟨m1, m2, m3, m4⟩ := main
  have hl : R'.length = o.length := Nat.le_antisymm G.le h
  have ho : o[i]? = some (gd o i) := gd_at (by omega)
  obtain ⟨w, w1, w2⟩ := G.rch _ (List.mem_of_getElem? ho)
  obtain ⟨r1, r2⟩ := along_run m4 (w := w) (s := 0) m1.pos w1
  refine ⟨w, w1, ?_⟩
  rw [m3, w2] at r1
  have a1 := gd_at (f := o) (i := runR R' 0 w) (by omega)
  rw [r1] at a1
  have x1 := List.getElem?_eq_some_iff.mp a1
  have x2 := List.getElem?_eq_some_iff.mp ho
  exact (List.getElem_inj G.nd).mp (x1.2.trans x2.2.symm)
theorem NumAt.grows {H H' : Hp} (g : Grows H H') {N : Addr} {o : List Nat} (h : NumAt H N o) : NumAt H' N o := by
  obtain ⟨kvs, h1, h2, h3⟩ := h
  exact ⟨kvs, g _ _ h1, h2, h3⟩
theorem Grows.not_new {H H' : Hp} (g : Grows H H') {a : Addr} (h : H' a = none) : H a = none := by
  cases e : H a with
  | none => rfl
  | some o => rw [g _ _ e] at h; cases h
structure GoH (H H' : Hp) (N O D : Addr) (R : List Rw) (m b : Nat) (o : List Nat) (ws : List V) (R' : List Rw) : Prop where
  gr : Grows H H'
  num : NumAt H' N o
  ord : H' O = some (.lst (o.map nV))
  row : H' D = some (.lst ws)
  rows : RowsAt H' ws R'
  at_ : GoneAt R m b o R'
theorem GoH.grows {H H' H2 : Hp} {N O D : Addr} {R : List Rw} {m b : Nat} {o : List Nat} {ws : List V} {R' : List Rw} (G : GoH H H' N O D R m b o ws R') (g : Grows H' H2) : GoH H H2 N O D R m b o ws R' :=
  ⟨G.gr.trans g, G.num.grows g, g _ _ G.ord, g _ _ G.row, G.rows.grows g, G.at_⟩
section
variable {P : Program} {w : World} {K : PySem.W.Frag} {mg : Str → Option Value} {base : Heap}
theorem scGone : FnScope NGo ["letters", "begin", "step", "ends"] (defScope sGone) := ⟨rfl, rfl, rfl, by decide +kernel, rfl, by decide +kernel, by decide +kernel⟩
theorem ok_gone {f : Addr} {oc kV doc pm cdv ct : Value} {an od : Option Addr} {osl : Array (Option Value)} (lk : K.lookup f = some ⟨oc, od, .func (PySem.W.fnOf "gone_through" "gone_through" (defArgs sGone) (defBody sGone) (defScope sGone) .none kV doc pm an cdv ct), osl⟩)
    (hcd : PySem.W.codeIn K cdv "gone_through" = true) (B : Blt mg) : FnH P w K mg base 8 f (PySem.W.fnOf "gone_through" "gone_through" (defArgs sGone) (defBody sGone) (defScope sGone) .none kV doc pm an cdv ct) ["letters", "begin", "step", "ends"] (spGone P w K mg base 4) := by
  refine fnh_ok lk hcd scGone (fun vs h H Q E hs => ?_) fun A outer s H vs Q E hr hs => ?_
  · obtain ⟨ls, fs, fe, b, R, rfl, _⟩ := hs
    rfl
  · obtain ⟨ls, fs, fe, b, R, rfl, hls, hnd, W, hRl, hb, ⟨Fs, pss, frs, wss, spS, fs1, fs2, Cs, Ns, impS⟩, ⟨Fe, pse, fre, wse, spE, fe1, fe2, Ce, Ne, impE⟩, q⟩ := hs
    refine ⟨_,
    (pss_cons (ps_par3 (i := 4) (j := 5) (l := 6) rfl scGone.nd rfl rfl rfl (by decide) (by decide) (by decide) rfl rfl rfl (pa_cons (pe_disp (pps_cons (pv 1) pe_int pps_nil) (by rfl) (by rfl) (fun z => by cases z) (by decide)) (pa_cons (pe_lst (pa_cons (pv 1) pa_nil)) (pa_cons (pe_lst pa_nil) pa_nil))) rfl)
      (pss_cons (ps_while PassesOwn.never (pt_cmpR op_lt (pe_callB call_len_seq (by rfl) B.len PySem.boot_len (pa_cons (pv 6) pa_nil)) (pe_callB call_len_seq (by rfl) B.len PySem.boot_len (pa_cons (pv 5) pa_nil)) (nomark _)) (pss_cons (ps_par (i := 7) (j := 8) rfl scGone.nd rfl rfl (by decide) rfl rfl (pa_cons (pe_ix ix_list (pv 5) (pe_callB call_len_seq (by rfl) B.len PySem.boot_len (pa_cons (pv 6) pa_nil)) (fun _ _ => rfl)) (pa_cons (pe_lst pa_nil) pa_nil)) rfl)
      (pss_cons (ps_for PassesOwn.never rfl (pi_str (pv 0)) (pg_name (i := 9) scGone.nd rfl (Or.inl rfl)) (pss_cons (ps_set (i := 10) scGone.nd rfl (Or.inl rfl) (pe_callC Ns Cs rfl (hr.mono (by decide)) (i := 2) rfl (.inl rfl) (pa_cons (pv 7) (pa_cons (pv 9) pa_nil))))
      (pss_cons (ps_if (pt_cmp (pc_dnotin (hu_of hr) (pv 10) (pv 4)) (by decide)) (pss_cons (ps_dput (hu_of hr) (pv 4) (pv 10) (pe_callB call_len_seq (by rfl) B.len PySem.boot_len (pa_cons (pv 5) pa_nil)) rfl)
      (pss_one (ps_expr (pe_bm PySem.F.plainAttrs_list PySem.F.slot_list_append PySem.F.type_list_append mt_append (pv 5) (pa_cons (pv 10) pa_nil))))) pss_nil)
      (pss_one (ps_expr (pe_bm PySem.F.plainAttrs_list PySem.F.slot_list_append PySem.F.type_list_append mt_append (pv 8) (pa_cons (pe_dget (hu_of hr) (pv 4) (pv 10) (fun _ _ => rfl)) pa_nil)))))))
      (pss_one (ps_expr (pe_bm PySem.F.plainAttrs_list PySem.F.slot_list_append PySem.F.type_list_append mt_append (pv 6) (pa_cons (pe_tup (pa_cons (pe_callTy call_bool1 (by rfl) B.bool (by decide +kernel) (pa_cons (pe_callC Ne Ce rfl (hr.mono (by decide)) (i := 3) rfl (.inl rfl) (pa_cons (pv 7) pa_nil)) pa_nil)) (pa_cons (pe_callTy call_tuple_of (by rfl) B.tuple (by decide +kernel) (pa_cons (pv 8) pa_nil)) pa_nil))) pa_nil)))))))
      (pss_one (ps_ret (pv 6))))), ?_⟩
    have sz : sizeLine = 16777216 := sizeLine_eq
    refine fun N nN => ⟨_, rfl, upd_same, [(.inl ((b : Nat) : Int), .int 0)], rfl, by show 1 ≤ 15; decide, ?_⟩
    have gN : Grows H (upd (upd H N (.dK [])) N (.dK (mergeK [] [(.inl ((b : Nat) : Int), .int 0)]))) := fun c o e => by
      rw [upd_ne (ne_of_none e nN), upd_ne (ne_of_none e nN)]
      exact e
    have kN : NumAt (upd (upd H N (.dK [])) N (.dK (mergeK [] [(.inl ((b : Nat) : Int), .int 0)]))) N [b] := by
      refine ⟨_, upd_same, rfl, fun t => ?_⟩
      by_cases c : t = b
      · subst c
        rw [if_pos List.mem_cons_self]
        show valV [((.inl ((t : Nat) : Int) : Key), V.int 0)] _ = _
        rw [valV_pos rfl]
        simp [nV]
      · rw [if_neg (fun z => c (List.mem_singleton.mp z))]
        show valV [((.inl ((b : Nat) : Int) : Key), V.int 0)] _ = _
        rw [valV_neg (fun z => c (by have := Sum.inl.inj z; omega))]
        rfl
    generalize upd (upd H N (.dK [])) N (.dK (mergeK [] [(.inl ((b : Nat) : Int), .int 0)])) = H1 at gN kN ⊢
    refine ⟨_, rfl, by show 1 ≤ sizeLine; omega, fun O nO => ?_⟩
    have gO : Grows H1 (upd H1 O (.lst [nV b])) := Grows.new nO
    have kO : upd H1 O (.lst [nV b]) O = some (.lst ([b].map nV)) := upd_same
    have kN := kN.grows gO
    generalize upd H1 O (.lst [nV b]) = H2 at gO kO kN ⊢
    refine ⟨by show 0 ≤ sizeLine; omega, fun D nD => ?_⟩
    have gD : Grows H2 (upd H2 D (.lst [])) := Grows.new nD
    have kD : upd H2 D (.lst []) D = some (.lst []) := upd_same
    have OD : O ≠ D := ne_of_none kO nD
    have kN := kN.grows gD
    have kO := gD _ _ kO
    have nO0 : H O = none := (gN.not_new nO)
    have nD0 : H D = none := ((gN.trans gO).not_new nD)
    have g3 := (gN.trans gO).trans gD
    generalize upd H2 D (.lst []) = H3 at gD kD kO kN g3 ⊢
    refine ⟨_, _, _, rfl, ?_⟩
    refine ⟨fun k σ' H' => ∃ (o : List Nat) (ws : List V) (R' : List Rw) (v7 v8 v9 v10 : Option V), k = R.length - R'.length ∧ σ' = [some (.str ls), some (nV b), some (.ref fs), some (.ref fe), some (.ref N), some (.ref O), some (.ref D), v7, v8, v9, v10] ∧ GoH H H' N O D R ls.length b o ws R',
      ⟨_, [b], [], [], _, _, _, _, rfl, rfl, g3, kN, kO, kD, ⟨rfl, fun k v r h => by cases h⟩, ⟨by simp, (fun s hs => by rw [List.mem_singleton.mp hs]; exact hb), rfl, Nat.zero_le _, (fun i r h => by cases h), fun s hs => ⟨[], (fun j h => by cases h), (List.mem_singleton.mp hs).symm⟩⟩⟩, ?_⟩
    rintro k σ' H4 ⟨o, ws, R', v7, v8, v9, v10, rfl, rfl, G⟩
    have few := G.at_.few
    have wl := G.rows.len
    refine ⟨_, rfl, D, ws, rfl, .inl (.inl (.inl G.row)), _, rfl, O, _, rfl, .inl (.inl (.inl G.ord)), _, _, rfl, rfl, _, rfl, ?_⟩
    by_cases c : R'.length < o.length
    · refine if_pos_of (decide_eq_true (by rw [List.length_map, wl]; omega)) ?_
      obtain ⟨s, hs⟩ : ∃ s, o[R'.length]? = some s := ⟨_, List.getElem?_eq_getElem c⟩
      have sl := G.at_.lt s (List.mem_of_getElem? hs)
      refine ⟨fun σ' H' => ∃ (o : List Nat) (ws' : List V) (R'' : List Rw) (v7 v8 v9 v10 : Option V), R''.length = R'.length + 1 ∧ σ' = [some (.str ls), some (nV b), some (.ref fs), some (.ref fe), some (.ref N), some (.ref O), some (.ref D), v7, v8, v9, v10] ∧ GoH H H' N O D R ls.length b o ws' R'',
        fun σ' H' ⟨o', ws', R'', v7, v8, v9, v10, h1, h2, h3⟩ => ⟨_, by have := h3.at_.few; have := h3.at_.le; omega, o', ws', R'', v7, v8, v9, v10, rfl, h2, h3⟩, ?_⟩
      refine ⟨_, rfl, _, rfl, D, ws, rfl, .inl (.inl (.inl G.row)), O, _, _, nV s, rfl, rfl, .inl (.inl G.ord), atI_nat (j := ws.length) (by rw [List.getElem?_map, wl, hs]; rfl), ?_⟩
      refine ⟨by show 0 ≤ sizeLine; omega, fun T nT => ?_⟩
      have gT : Grows H4 (upd H4 T (.lst [])) := Grows.new nT
      have kT : upd H4 T (.lst []) T = some (.lst ([].map nV)) := upd_same
      have TO : T ≠ O := fun e => by rw [e, G.ord] at nT; cases nT
      have TD : T ≠ D := fun e => by rw [e, G.row] at nT; cases nT
      have TN : T ≠ N := fun e => by
        obtain ⟨kvs, h1, _⟩ := G.num
        rw [e, h1] at nT
        cases nT
      have nT0 : H T = none := G.gr.not_new nT
      have G := G.grows gT
      generalize upd H4 T (.lst []) = H5 at gT kT G ⊢
      refine ⟨_, _, rfl, ?_⟩
      refine ⟨_, rfl, ls, rfl, for_it walk_str (fun j σ H' => ∃ (o' : List Nat) (ts : List Nat) (v9 v10 : Option V), σ = [some (.str ls), some (nV b), some (.ref fs), some (.ref fe), some (.ref N), some (.ref O), some (.ref D), some (nV s), some (.ref T), v9, v10] ∧ GoH H H' N O D R ls.length b o' ws R' ∧ (∀ (i x : Nat), o[i]? = some x → o'[i]? = some x) ∧
          H' T = some (.lst (ts.map nV)) ∧ ts.length = j ∧ ∀ (a t : Nat), ts[a]? = some t → o'[t]? = some (toR R s a))
        ⟨o, [], _, _, rfl, G, fun _ _ h => h, kT, rfl, fun a t h => by cases h⟩ (fun _ _ _ _ _ => trivial) ?_ ?_⟩
      · rintro j x σ H6 H6' hj ⟨o', ts, v9, v10, rfl, G6, ex, kT6, tl, ht⟩ ⟨rfl, ch, hch, rfl⟩
        have hch : ls.cps.toList[j]? = some ch := by rw [Array.getElem?_toList]; exact hch
        have cm := List.mem_of_getElem? hch
        have hjl : j < ls.length := by have := (List.getElem?_eq_some_iff.mp hch).1; rw [cut_len] at this; exact this
        have ix : ls.cps.toList.idxOf ch = j := by
          obtain ⟨hl, e⟩ := List.getElem?_eq_some_iff.mp hch
          rw [← e]
          exact hnd.idxOf_getElem j hl
        have gr6 := G6.gr
        obtain ⟨tl1, tl2⟩ := W.to sl hjl
        refine ⟨rfl, gr6 _ _ fs1, _, rfl, _, rfl, gr6 _ _ fs1, gr6 _ _ fs2, impS _ _ _ ⟨s, ch, rfl, sl, cm, gr6, fun H7 g7 => ?_⟩⟩
        rw [ix]
        generalize htt : toR R s j = t at tl1
        have G7 := G6.grows g7
        have kT7 := g7 _ _ kT6
        obtain ⟨kvs, n1, n2, n3⟩ := id G7.num
        have few7 := G7.at_.few
        -- behind the if
        dsimp only [gName, tSeq, tNext, tAsg]
        refine (?_ : tIfS _ _ _ ?D1 _ _)
        have fin : ∀ (H8 : Hp) (o2 : List Nat), GoH H H8 N O D R ls.length b o2 ws R' → (∀ (i x : Nat), o[i]? = some x → o2[i]? = some x) → H8 T = some (.lst (ts.map nV)) → (∀ (a t : Nat), ts[a]? = some t → o2[t]? = some (toR R s a)) → t ∈ o2 → Ends.nx ?D1 [some (.str ls), some (nV b), some (.ref fs), some (.ref fe), some (.ref N), some (.ref O), some (.ref D), some (nV s), some (.ref T), some (.str (sg ch)), some (nV t)] H8 := fun H8 o2 G8 ex8 kT8 ht8 hm => ?_
        rotate_left
        · obtain ⟨kvs8, m1, m2, m3⟩ := id G8.num
          have few8 := G8.at_.few
          have hi := List.idxOf_lt_length_of_mem hm
          refine ⟨_, rfl, .inl ⟨rfl, _, .inl (.inl kT8)⟩, _, rfl, _, rfl, N, nV (o2.idxOf t), rfl, ?_, T, _, _, rfl, rfl, kT8, by rw [List.length_map]; omega, ?_⟩
          · have := DGet.k (k := (.inl ((t : Nat) : Int) : Key)) m1
            rw [m3, if_pos hm] at this
            exact this
          · have kO8 := G8.ord
            have TN8 : T ≠ N := TN
            refine ⟨o2, ts ++ [o2.idxOf t], _, _, rfl, ⟨fun c o e => ?_, ⟨kvs8, by rw [upd_ne TN.symm]; exact m1, m2, m3⟩, by rw [upd_ne TO.symm]; exact kO8, by rw [upd_ne TD.symm]; exact G8.row, G8.rows.put kT8, G8.at_⟩, ex8, by rw [upd_same, List.map_append]; rfl, by rw [List.length_append, tl]; rfl, fun a u hu => ?_⟩
            · rw [upd_ne (ne_of_none e nT0)]
              exact G8.gr _ _ e
            · by_cases ca : a < ts.length
              · rw [List.getElem?_append_left ca] at hu
                exact ht8 a u hu
              · have ha := (List.getElem?_eq_some_iff.mp hu).1
                rw [List.length_append, List.length_singleton] at ha
                have h0 : a - ts.length = 0 := by omega
                rw [List.getElem?_append_right (by omega), h0] at hu
                rw [← Option.some.inj hu, show a = j by omega, htt]
                exact getElem?_idx hm
        refine ⟨_, rfl, _, rfl, N, _, rfl, DGet.k (k := .inl ((t : Nat) : Int)) n1, ?_⟩
        rw [n3]
        by_cases hm : t ∈ o'
        · rw [if_pos hm]
          refine ⟨_, rfl, if_neg_of (by show ¬ (!true) = true; decide) ?_⟩
          exact fin H7 o' G7 ex kT7 ht hm
        · rw [if_neg hm]
          refine ⟨_, rfl, if_pos_of rfl ?_⟩
          have nd2 : (o' ++ [t]).Nodup := by
            rw [List.nodup_append]
            exact ⟨G7.at_.nd, by simp, fun x hx y hy e => by rw [List.mem_singleton.mp hy] at e; exact hm (e ▸ hx)⟩
          have lt2 : ∀ x ∈ o' ++ [t], x < R.length := fun x hx => by
            rcases List.mem_append.mp hx with h | h
            · exact G7.at_.lt x h
            · rw [List.mem_singleton.mp h]; exact tl1
          have rch2 : ∀ x ∈ o' ++ [t], ∃ w : List Nat, (∀ j ∈ w, j < ls.length) ∧ runR R b w = x := fun x hx => by
            rcases List.mem_append.mp hx with h | h
            · exact G7.at_.rch x h
            · obtain ⟨u, u1, u2⟩ := G7.at_.rch s (List.mem_of_getElem? (ex _ _ hs))
              refine ⟨u ++ [j], fun y hy => ?_, ?_⟩
              · rcases List.mem_append.mp hy with h | h
                · exact u1 y h
                · rw [List.mem_singleton.mp h]; exact hjl
              · rw [runR_app, u2, List.mem_singleton.mp h, ← htt]
                rfl
          have ext2 : ∀ (i x : Nat), o'[i]? = some x → (o' ++ [t])[i]? = some x := fun i x h => by rw [List.getElem?_append_left (List.getElem?_eq_some_iff.mp h).1]; exact h
          refine ⟨_, rfl, O, _, rfl, .inl (.inl (.inl G7.ord)), _, rfl, _, rfl, N, _, rfl, DPut.k (k := .inl ((t : Nat) : Int)) n1 (by omega), ?_⟩
          rw [List.length_map]
          have kN8 : NumAt (upd H7 N (.dK (putK kvs (.inl ((t : Nat) : Int)) (.int ((o'.length : Nat) : Int))))) N (o' ++ [t]) := NumAt.put n2 n3 hm
          have NO : O ≠ N := fun e => by rw [← e, G7.ord] at n1; cases n1
          have ND : D ≠ N := fun e => by rw [← e, G7.row] at n1; cases n1
          have kO8 : upd H7 N (.dK (putK kvs (.inl ((t : Nat) : Int)) (.int ((o'.length : Nat) : Int)))) O = some (.lst (o'.map nV)) := by rw [upd_ne NO]; exact G7.ord
          have kD8 : upd H7 N (.dK (putK kvs (.inl ((t : Nat) : Int)) (.int ((o'.length : Nat) : Int)))) D = some (.lst ws) := by rw [upd_ne ND]; exact G7.row
          have kT8 : upd H7 N (.dK (putK kvs (.inl ((t : Nat) : Int)) (.int ((o'.length : Nat) : Int)))) T = some (.lst (ts.map nV)) := by rw [upd_ne TN]; exact kT7
          have rows8 : RowsAt (upd H7 N (.dK (putK kvs (.inl ((t : Nat) : Int)) (.int ((o'.length : Nat) : Int))))) ws R' := ⟨G7.rows.len, fun k v r h1 h2 => by
            obtain ⟨a, u, e1, e2, e3⟩ := G7.rows.at_ k v r h1 h2
            exact ⟨a, u, e1, by rw [upd_ne (ne_of e2 n1 (by intro z; cases z))]; exact e2, by rw [upd_ne (ne_of e3 n1 (by intro z; cases z))]; exact e3⟩⟩
          have gr8 : Grows H (upd H7 N (.dK (putK kvs (.inl ((t : Nat) : Int)) (.int ((o'.length : Nat) : Int))))) := fun c x e => by
            rw [upd_ne (ne_of_none e nN)]
            exact G7.gr _ _ e
          generalize upd H7 N (.dK (putK kvs (.inl ((t : Nat) : Int)) (.int ((o'.length : Nat) : Int)))) = H8 at kN8 kO8 kD8 kT8 rows8 gr8 ⊢
          refine ⟨_, rfl, .inl ⟨rfl, _, .inl (.inl kO8)⟩, _, rfl, O, _, _, rfl, rfl, kO8, by rw [List.length_map]; omega, ?_⟩
          refine fin _ (o' ++ [t]) ⟨fun c x e => ?_, ?_, by rw [upd_same, List.map_append]; rfl, by rw [upd_ne OD.symm]; exact kD8, rows8.put kO8, G7.at_.more nd2 lt2 ext2 rch2⟩ (fun i x h => ext2 i x (ex i x h)) (by rw [upd_ne TO]; exact kT8) (fun a u h => ext2 _ _ (ht a u h)) (List.mem_append_right _ List.mem_cons_self)
          · rw [upd_ne (ne_of_none e nO0)]
            exact gr8 _ _ e
          · obtain ⟨kvs8, m1, m2, m3⟩ := kN8
            exact ⟨kvs8, by rw [upd_ne NO.symm]; exact m1, m2, m3⟩
      · rintro σ H6 ⟨o', ts, v9, v10, rfl, G6, ex, kT6, tl, ht⟩
        have gr6 := G6.gr
        refine ⟨_, rfl, .inl ⟨rfl, _, .inl (.inl G6.row)⟩, rfl, gr6 _ _ fe1, _, rfl, gr6 _ _ fe1, gr6 _ _ fe2, impE _ _ _ ⟨s, rfl, sl, gr6, fun H7 g7 => ?_⟩⟩
        have G7 := G6.grows g7
        have kT7 := g7 _ _ kT6
        refine .inr ⟨_, rfl, ?_⟩
        refine ⟨_, rfl, T, _, rfl, .inl ⟨.inl (.inl kT7), fun p np => ?_⟩⟩
        have gp : Grows H7 (upd H7 p (.tup (ts.map nV))) := Grows.new np
        have kp : upd H7 p (.tup (ts.map nV)) p = some (.tup (ts.map nV)) := upd_same
        have G8 := G7.grows gp
        generalize upd H7 p (.tup (ts.map nV)) = H8 at gp kp G8 ⊢
        refine ⟨by show 2 ≤ sizeLine; omega, fun r nr => ?_⟩
        have gr : Grows H8 (upd H8 r (.tup [.bl (acR R s), .ref p])) := Grows.new nr
        have kr : upd H8 r (.tup [.bl (acR R s), .ref p]) r = some (.tup [.bl (acR R s), .ref p]) := upd_same
        have G9 := G8.grows gr
        have kp := gr _ _ kp
        generalize upd H8 r (.tup [.bl (acR R s), .ref p]) = H9 at gr kr kp G9 ⊢
        have few9 := G9.at_.few
        have le9 := G9.at_.le
        have hrow : RowAt H9 (.ref r) (acR R s, ts) := ⟨r, p, rfl, kr, kp⟩
        refine ⟨D, _, _, rfl, rfl, G9.row, by rw [wl]; omega, ?_⟩
        have tl : ts.length = ls.length := by rw [tl]; exact cut_len ls
        have kD9 := G9.row
        refine ⟨o', ws ++ [.ref r], R' ++ [(acR R s, ts)], _, _, _, _, by rw [List.length_append]; rfl, rfl, ⟨fun c x e => ?_, ?_, by rw [upd_ne OD]; exact G9.ord, upd_same, (G9.rows.put kD9).snoc (hrow.put kD9), G9.at_.snoc (ex _ _ hs) rfl tl fun j t h => ht j t h⟩⟩
        · rw [upd_ne (ne_of_none e nD0)]
          exact G9.gr _ _ e
        · obtain ⟨kvs8, m1, m2, m3⟩ := id G9.num
          exact ⟨kvs8, by rw [upd_ne (fun e => by rw [e, kD9] at m1; cases m1)]; exact m1, m2, m3⟩
    · refine if_neg_of (by rw [decide_eq_false (by rw [List.length_map, wl]; omega)]; decide) ?_
      obtain ⟨⟨e1, e2, e3, e4⟩, e5⟩ := G.at_.end_ W (by omega)
      exact ⟨_, rfl, q H4 D ws R' G.gr nD0 G.row G.rows e1 e2 ⟨o, e3, e4⟩ e5⟩
end
end SWL
set_option Elab.async false
set_option linter.all false
set_option maxRecDepth 100000
set_option maxHeartbeats 8000000
namespace SWL
open PySem PySem.Spec PyProof.Rows L2 LamX NdefX
/-! classed: finer classes from turn to turn -/
abbrev clsScope : Scope := { kind := .function, names := [(".0", .local), ("at", .local), ("row", .local), ("tuple", .globalImplicit), ("len", .globalImplicit), ("classes", .cell), ("numbers", .cell)], isGenerator := false, isCoroutine := false }
abbrev NCl : List Str := ["rows", "classes", "many", "numbers", "finer", "ends", "tos", "at", "row", "to"]
def rTup (K : PySem.W.Frag) : List V → Hp → VK → Prop := fun xs H Q => ∃ p ys, xs = [.ref p] ∧ ((SqL K H p ys ∧ ∀ l, H l = none → Q (.ref l) (upd H l (.tup ys))) ∨ (SqT K H p ys ∧ Q (.ref p) H))
def teI (K : PySem.W.Frag) : TE := tCB (fun xs H Q => (∃ i, xs = [.int i] ∧ Q (.int i) H) ∨ ∃ k : Bool, xs = [.bl k] ∧ Q (.int (if k then 1 else 0)) H) (tCons (tVar 5) tNil)
def teF (P : Program) (w : World) (K : PySem.W.Frag) : TE := tNSetd P w (tVar 3) (tOp (rCatT K) (tTup (tCons (tVar 7) tNil)) (tCB (rTup K) (tCons (tLc (iTup K (tOp (rIxT K) (tVar 8) (tC (.int 1)))) (gName 9) tYes (tOp (rIxL K) (tVar 1) (tVar 9)) [9]) tNil))) (tCB (rLenN P w) (tCons (tVar 3) tNil))
theorem KeysAt.keep {H H' : Hp} (g : ∀ b xs, H b = some (.tup xs) → H' b = some (.tup xs)) {rows : List NRow} (h : KeysAt H rows) : KeysAt H' rows := fun r hr => ⟨NkAt.keep g _ (h r hr).1, (h r hr).2⟩
theorem valN_some {k : NestedKey} {v : V} : ∀ {rows : List NRow}, valN rows k = some v → ∃ (i : Nat) (r : NRow), rows[i]? = some r ∧ r.1 = k ∧ r.2.2 = v
  | [], h => by cases h
  | r :: rows, h => by
    unfold valN at h
    rw [List.find?_cons] at h
    by_cases c : r.1 = k
    · rw [decide_eq_true c] at h
      exact ⟨0, r, rfl, c, Option.some.inj h⟩
    · rw [decide_eq_false c] at h
      obtain ⟨i, r', h1, h2⟩ := valN_some (rows := rows) h
      exact ⟨i + 1, r', h1, h2⟩
theorem valN_none {k : NestedKey} : ∀ {rows : List NRow}, valN rows k = none → ∀ r ∈ rows, r.1 ≠ k
  | [], _, r, hr => by cases hr
  | r0 :: rows, h, r, hr => by
    unfold valN at h
    rw [List.find?_cons] at h
    by_cases c : r0.1 = k
    · rw [decide_eq_true c] at h
      cases h
    · rw [decide_eq_false c] at h
      rcases List.mem_cons.mp hr with rfl | hr
      · exact c
      · exact valN_none (rows := rows) h r hr
/-- a list of numbers as a key -/
def nkey (k : List Nat) : NestedKey := .tup (k.map fun n => .num ((n : Nat) : Int))
theorem nkey_inj {k l : List Nat} (h : nkey k = nkey l) : k = l := by
  have h := NestedKey.tup.inj h
  have gen : ∀ k l : List Nat, (k.map fun n => NestedKey.num ((n : Nat) : Int)) = (l.map fun n => NestedKey.num ((n : Nat) : Int)) → k = l := by
    intro k
    induction k with
    | nil => intro l h; cases l with
      | nil => rfl
      | cons b l => cases h
    | cons a k ih => intro l h; cases l with
      | nil => cases h
      | cons b l =>
        rw [List.map_cons, List.map_cons] at h
        obtain ⟨h1, h2⟩ := List.cons.inj h
        have := NestedKey.num.inj h1
        rw [ih l h2, show a = b by omega]
  exact gen k l h
theorem nk_nums {H : Hp} : ∀ l : List Nat, NkAll H (l.map nV) (l.map fun n => .num ((n : Nat) : Int))
  | [] => .nil
  | a :: l => .cons (.int _) (nk_nums l)
theorem nkey_at {H : Hp} {p : Addr} {l : List Nat} (h : H p = some (.tup (l.map nV))) : NkAt H (.ref p) (nkey l) := .tup h (nk_nums l)
theorem nkey_depth (l : List Nat) : (nkey l).depth ≤ 8 := by
  have e : ∀ l : List Nat, NestedKey.depthAll (l.map fun n => .num ((n : Nat) : Int)) ≤ 0 := by
    intro l
    induction l with
    | nil => exact Nat.le_refl _
    | cons a l ih =>
      rw [List.map_cons, NestedKey.depthAll]
      have : NestedKey.depth (.num ((a : Nat) : Int)) = 0 := rfl
      omega
  have := e l
  unfold nkey
  rw [NestedKey.depth]
  omega
def idxG {α : Type} [DecidableEq α] (l : List α) (k : α) : Nat := l.idxOf k
theorem idxG_at {α : Type} [DecidableEq α] {l : List α} (nd : l.Nodup) {i : Nat} (h : i < l.length) : idxG l l[i] = i := nd.idxOf_getElem i h
def NumRows (rows : List NRow) (ks : List (List Nat)) : Prop := rows.length = ks.length ∧ ∀ (i : Nat) (r : NRow), rows[i]? = some r → ∃ k, ks[i]? = some k ∧ r.1 = nkey k ∧ r.2.2 = nV i
theorem NumRows.there {rows : List NRow} {ks : List (List Nat)} {k : List Nat} {v : V} (N : NumRows rows ks) (nd : ks.Nodup) (h : valN rows (nkey k) = some v) : k ∈ ks ∧ v = nV (idxG ks k) := by
  obtain ⟨i, r, h1, h2, h3⟩ := valN_some h
  obtain ⟨k', e1, e2, e3⟩ := N.2 i r h1
  have ek : k' = k := nkey_inj (e2.symm.trans h2)
  subst ek
  obtain ⟨hl, e⟩ := List.getElem?_eq_some_iff.mp e1
  refine ⟨List.mem_of_getElem? e1, ?_⟩
  rw [← h3, e3, ← e, idxG_at nd hl]
theorem NumRows.gone {rows : List NRow} {ks : List (List Nat)} {k : List Nat} (N : NumRows rows ks) (h : valN rows (nkey k) = none) : k ∉ ks := fun hm => by
  obtain ⟨i, hi⟩ := List.getElem?_of_mem hm
  have hl := (List.getElem?_eq_some_iff.mp hi).1
  rw [← N.1] at hl
  have hr : rows[i]? = some rows[i] := List.getElem?_eq_getElem hl
  obtain ⟨k', e1, e2, _⟩ := N.2 i _ hr
  rw [hi] at e1
  rw [← Option.some.inj e1] at e2
  exact valN_none h _ (List.mem_of_getElem? hr) e2
theorem NumRows.snoc {rows : List NRow} {ks : List (List Nat)} {k : List Nat} {b : Addr} (N : NumRows rows ks) : NumRows (rows ++ [(nkey k, b, nV rows.length)]) (ks ++ [k]) := by
  refine ⟨by rw [List.length_append, List.length_append, N.1]; rfl, fun i r hr => ?_⟩
  by_cases c : i < rows.length
  · rw [List.getElem?_append_left c] at hr
    obtain ⟨k', e1, e2⟩ := N.2 i r hr
    exact ⟨k', by rw [List.getElem?_append_left (by rw [← N.1]; exact c)]; exact e1, e2⟩
  · have hi := (List.getElem?_eq_some_iff.mp hr).1
    rw [List.length_append, List.length_singleton] at hi
    have h0 : i - rows.length = 0 := by omega
    rw [List.getElem?_append_right (by omega), h0] at hr
    rw [← Option.some.inj hr, show i = rows.length by omega]
    exact ⟨k, by rw [List.getElem?_append_right (by rw [N.1]; exact Nat.le_refl _), N.1, Nat.sub_self]; rfl, rfl, rfl⟩
def clV (cl : List Nat) : V → V
  | .int i => nV (gd cl i.toNat)
  | _ => .non
def spClassed : Sp := fun vs H Q _ => ∃ (l : Addr) (m : Nat) (ws : List V) (R : List Rw), vs = [.ref l] ∧ H l = some (.lst ws) ∧ RowsAt H ws R ∧ WfR m R ∧ R.length ≤ 1000 ∧ 1 ≤ m ∧ m ≤ 1000 ∧ ∀ (H' : Hp) (D : Addr) (f : List Nat), Grows H H' → H D = none → H' D = some (.lst (f.map nV)) → Whole R m f → Q (.ref D) H'
section
variable {P : Program} {w : World} {K : PySem.W.Frag} {mg : Str → Option Value} {base : Heap}
theorem scClassed : FnScope NCl ["rows"] (defScope sClassed) := ⟨rfl, rfl, rfl, by decide +kernel, rfl, by decide +kernel, by decide +kernel⟩
theorem ok_classed {f : Addr} {fd : FuncData} (F : L2.Fun K "classed" "classed" sClassed f fd) (B : Blt mg) : FnOk P w K mg base CX0 1 f fd ["rows"] spClassed := by
  refine F.ok scClassed (fun vs H Q E h => ?_) (fun cdv A outer s H vs Q E hr h => (fun u16 => ⟨_,
    (pss_cons (ps_asg (pe_tup (pa_cons (pe_lc (own := [("ends", 5), ("tos", 6)]) (g := (gTup K 2 (gCons (gName 5) (gCons (gName 6) gNil)))) (tt := tYes) (te := (teI K)) rfl scClassed.nd (pi_list (pv 0)) (blkOk_by (N := NCl) (sc := defScope sClassed) (by decide +kernel)) (fun _ _ _ _ _ => (pg_tup rfl (pgs_cons (pg_name (i := 5) scClassed.nd rfl (Or.inl rfl)) (pgs_cons (pg_name (i := 6) scClassed.nd rfl (Or.inl rfl)) pgs_nil)))) (fun _ _ _ _ _ => pts_nil) (fun _ _ _ _ _ => (pe_callTy call_int1 (by rfl) B.int (by decide +kernel) (pa_cons (pv 5) pa_nil)))) (pa_cons pe_int pa_nil))) (pg_tup rfl (pgs_cons (pg_name (i := 1) scClassed.nd rfl (Or.inr rfl)) (pgs_cons (pg_name (i := 2) scClassed.nd rfl (Or.inl rfl)) pgs_nil))))
      (pss_one (ps_while PassesOwn.never (pt_truth pe_bl (by intro _; rfl)) (pss_cons (ps_set (i := 3) scClassed.nd rfl (Or.inr rfl) pe_dnewN)
      (pss_cons (ps_setLc (i := 4) (own := [("at", 7), ("row", 8)]) (g := (gTup K 2 (gCons (gName 7) (gCons (gName 8) gNil)))) (tt := tYes) (te := (teF P w K)) rfl scClassed.nd rfl rfl (sw_true rfl rfl rfl (by decide +kernel)) (pi_zip (by rfl) B.zip (pa_cons (pv 1) (pa_cons (pv 0) pa_nil))) (blkOk_by (N := NCl) (sc := defScope sClassed) (by decide +kernel)) (fun _ _ _ _ _ => (pg_tup rfl (pgs_cons (pg_name (i := 7) scClassed.nd rfl (Or.inl rfl)) (pgs_cons (pg_name (i := 8) scClassed.nd rfl (Or.inl rfl)) pgs_nil)))) (fun _ _ _ _ _ => pts_nil) (fun _ _ _ _ _ => (pe_dsetdN u16 (pv 3) (pe_op op_catT (pe_tup (pa_cons (pv 7) pa_nil)) (pe_callTy call_tuple_of (by rfl) B.tuple (by decide +kernel) (pa_cons (pe_lc (own := [("to", 9)]) (g := (gName 9)) (tt := tYes) (te := (tOp (rIxL K) (tVar 1) (tVar 9))) rfl scClassed.nd (pi_tup (pe_ix ix_tup (pv 8) pe_int (fun _ _ => rfl))) (blkOk_by (N := NCl) (sc := clsScope) (by decide +kernel)) (fun _ _ _ _ _ => (pg_name (i := 9) scClassed.nd rfl (Or.inl rfl))) (fun _ _ _ _ _ => pts_nil) (fun _ _ _ _ _ => (pe_ix ix_list (pv 1) (pv 9) (fun _ _ => rfl)))) pa_nil))) (pe_callB cr_lenN (by rfl) B.len PySem.boot_len (pa_cons (pv 3) pa_nil)) ⟨by rfl, by rfl, by rfl, by rfl⟩)))
      (pss_cons (ps_if (pt_cmpR op_eq (pe_callB cr_lenN (by rfl) B.len PySem.boot_len (pa_cons (pv 3) pa_nil)) (pv 2) (nomark _)) (pss_one (ps_ret (pv 4))) pss_nil)
      (pss_one (ps_asg (pe_tup (pa_cons (pv 4) (pa_cons (pe_callB cr_lenN (by rfl) B.len PySem.boot_len (pa_cons (pv 3) pa_nil)) pa_nil))) (pg_tup rfl (pgs_cons (pg_name (i := 1) scClassed.nd rfl (Or.inr rfl)) (pgs_cons (pg_name (i := 2) scClassed.nd rfl (Or.inl rfl)) pgs_nil))))))))))), ?_⟩) (show (A.deeper (envOfC "classed" (defScope sClassed) s.heap.objs.size f cdv)).units + 16 < cLine by have := hr.un; omega))
  · obtain ⟨l, m, ws, R, rfl, _⟩ := h
    rfl
  · obtain ⟨l, m, ws, R, rfl, hl, hR, W, hn, hm1, hm, q⟩ := h
    have sz : sizeLine = 16777216 := sizeLine_eq
    have wl := hR.len
    refine ⟨_, rfl, l, rfl, ⟨_, .inl (.inl hl)⟩, fun D nD => ?_⟩
    refine lc_it (walk_list (xs := ws)) (fun k H' => Grows H H' ∧ H' D = some (.lst ((cl0 (R.take k)).map nV))) ⟨Grows.new nD, upd_same⟩ (fun _ H' _ hh => .inl (.inl (hh.1 _ _ hl))) ?_ ?_
    · rintro k y H2x H2 hk ⟨g2, kD⟩ ⟨rfl, hy⟩
      obtain ⟨r, hr, lr⟩ := W.row (show k < R.length by omega)
      obtain ⟨a, t, rfl, ha, ht⟩ := hR.at_ k y r hy hr
      refine ⟨a, _, rfl, .inl (.inl (g2 _ _ ha)), rfl, _, _, rfl, _, _, rfl, rfl, rfl, ?_⟩
      refine ⟨_, rfl, .inr ⟨r.1, rfl, _, kD, by rw [List.length_map]; unfold cl0; rw [List.length_map, List.length_take]; omega, fun c o e => ?_, ?_⟩⟩
      · rw [upd_ne (ne_of_none e nD)]
        exact g2 _ _ e
      · rw [upd_same, take_snoc hr]
        unfold cl0
        rw [List.map_append, List.map_append]
        show _ = some (HO.lst (_ ++ [nV (if r.1 = true then 1 else 0)]))
        cases r.1 <;> rfl
    · rintro H2 ⟨g2, kD⟩
      rw [wl, List.take_length] at kD
      refine ⟨by show 2 ≤ sizeLine; omega, fun T nT => ?_⟩
      have gT : Grows H2 (upd H2 T (.tup [.ref D, .int 0])) := Grows.new nT
      have kT : upd H2 T (.tup [.ref D, .int 0]) T = some (.tup [.ref D, .int 0]) := upd_same
      have kD := gT _ _ kD
      have g3 := g2.trans gT
      generalize upd H2 T (.tup [.ref D, .int 0]) = H3 at gT kT kD g3 ⊢
      refine ⟨T, _, rfl, .inl (.inl kT), rfl, _, _, rfl, _, _, rfl, rfl, ?_⟩
      clear gT kT nT g2
      refine ⟨fun k σ' H' => ∃ (Cl : Addr) (cl : List Nat) (many : Nat) (v3 v4 v5 v6 v7 v8 v9 : Option V), k = R.length + 1 - many ∧ σ' = [some (.ref l), some (.ref Cl), some (nV many), v3, v4, v5, v6, v7, v8, v9] ∧ Grows H H' ∧ H' Cl = some (.lst (cl.map nV)) ∧ ClOk R cl many ∧ many ≤ R.length,
        ⟨_, D, cl0 R, 0, _, _, _, _, _, _, _, rfl, rfl, g3, kD, clOk0 R, Nat.zero_le _⟩, ?_⟩
      clear kD nD g3
      rintro k σ' H4 ⟨Cl, cl, many, v3, v4, v5, v6, v7, v8, v9, rfl, rfl, g4, kC, C, hmany⟩
      have cll := C.len
      refine ⟨_, rfl, if_pos_of rfl ?_⟩
      refine ⟨fun σ' H' => ∃ (Cl : Addr) (cl : List Nat) (m2 : Nat) (v3 v4 v5 v6 v7 v8 v9 : Option V), many < m2 ∧ σ' = [some (.ref l), some (.ref Cl), some (nV m2), v3, v4, v5, v6, v7, v8, v9] ∧ Grows H H' ∧ H' Cl = some (.lst (cl.map nV)) ∧ ClOk R cl m2 ∧ m2 ≤ R.length,
        fun σ' H' ⟨Cl, cl, m2, v3, v4, v5, v6, v7, v8, v9, h1, h2, h3, h4, h5, h6⟩ => ⟨_, by omega, Cl, cl, m2, v3, v4, v5, v6, v7, v8, v9, rfl, h2, h3, h4, h5, h6⟩, ?_⟩
      refine fun Nd nN => ?_
      have nN0 : ∀ {c o}, H4 c = some o → c ≠ Nd := fun e => ne_of_none e nN
      generalize e5 : upd H4 Nd (NDO _ _ Nd []) = H5
      have gN : Grows H4 H5 := by rw [← e5]; exact Grows.new nN
      have kN : H5 Nd = some (NDO P w Nd []) := by rw [← e5]; exact upd_same
      clear e5
      have g5 := g4.trans gN
      have kC5 := gN _ _ kC
      refine ⟨_, rfl, _, rfl, Cl, l, _, ws, rfl, .inl (.inl kC5), .inl (.inl (g5 _ _ hl)), fun F nF => ?_⟩
      have nFN : F ≠ Nd := fun e => by rw [e, kN] at nF; cases nF
      have kl := keysOf_len (R := R) cll
      have nN5 : ∀ {c o}, H c = some o → c ≠ Nd := fun e => nN0 (g4 _ _ e)
      have nF4 : ∀ {c o}, H5 c = some o → c ≠ F := fun e => ne_of_none e nF
      refine lc_it (walk_zip (xs := cl.map nV) (ys := ws) (n := R.length) (by rw [List.length_map, cll, wl, Nat.min_self])) (fun k H' => (∀ c o, H5 c = some o → c ≠ Nd → H' c = some o) ∧ ∃ rows : List NRow, H' Nd = some (NDO P w Nd rows) ∧ KeysAt H' rows ∧ NumRows rows (numsK ((keysOf cl R).take k)).1 ∧ H' F = some (.lst ((numsK ((keysOf cl R).take k)).2.map nV)))
        ⟨fun c o e n => by rw [upd_ne (nF4 e)]; exact e, [], by rw [upd_ne nFN.symm]; exact kN, (fun r hr => by cases hr), ⟨rfl, fun i r h => by cases h⟩, upd_same⟩ (fun _ H' _ hh => ⟨.inl (.inl (hh.1 _ _ kC5 (nN0 kC))), .inl (.inl (hh.1 _ _ (g5 _ _ hl) (nN5 hl)))⟩) ?_ ?_
      · rintro k y H6 H6' hk ⟨kk6, rows, kN6, ks6, N6, kF6⟩ ⟨tp, x1, x2, rfl, ntp, rfl, e1, e2⟩
        obtain ⟨r, hr, lr⟩ := W.row hk
        have ck : cl[k]? = some (gd cl k) := gd_at (by omega)
        have e1 : (cl.map nV)[k]? = some x1 := e1
        rw [List.getElem?_map, ck] at e1
        have e1 := (Option.some.inj e1).symm
        obtain ⟨a, t, rfl, ha, ht⟩ := hR.at_ k x2 r e2 hr
        subst e1
        have gt : Grows H6 (upd H6 tp (.tup [nV (gd cl k), .ref a])) := Grows.new ntp
        refine ⟨tp, _, rfl, .inl (.inl upd_same), rfl, _, _, rfl, _, _, rfl, rfl, rfl, ?_⟩
        generalize upd H6 tp (.tup [nV (gd cl k), .ref a]) = H7 at gt ⊢
        have ha7 := gt _ _ (kk6 _ _ (g5 _ _ ha) (nN5 ha))
        have ht7 := gt _ _ (kk6 _ _ (g5 _ _ ht) (nN5 ht))
        have kC7 := gt _ _ (kk6 _ _ kC5 (nN0 kC))
        have kN7 := gt _ _ kN6
        have kF7 := gt _ _ kF6
        refine ⟨_, rfl, Nd, rfl, ⟨rows, kN7⟩, ?_⟩
        refine ⟨_, rfl, by show 1 ≤ sizeLine; omega, fun t1 nt1 => ?_⟩
        have g1 : Grows H7 (upd H7 t1 (.tup [nV (gd cl k)])) := Grows.new nt1
        have k1 : upd H7 t1 (.tup [nV (gd cl k)]) t1 = some (.tup [nV (gd cl k)]) := upd_same
        generalize upd H7 t1 (.tup [nV (gd cl k)]) = H8 at g1 k1 ⊢
        refine ⟨_, rfl, a, _, _, _, rfl, rfl, .inl (.inl (g1 _ _ ha7)), atI_nat (j := 1) rfl, t, rfl, ⟨_, .inl (.inl (g1 _ _ ht7))⟩, fun D2 nD2 => ?_⟩
        refine comp (xs := r.2.map nV) walk_tup (fun _ => true) (clV cl) nD2 (fun H' g => .inl (.inl (g _ _ (g1 _ _ ht7)))) (by rw [List.length_map]; omega) (fun x H k _ g hk => hk H (Grows.refl H)) (fun x H9 Q hx _ g9 hq => ?_) (fun H9 g9 hD2 => ?_)
        · obtain ⟨u, hu, rfl⟩ := List.mem_map.mp hx
          obtain ⟨j, hj⟩ := List.getElem?_of_mem hu
          have ul := W.lt k r hr j u hj
          exact ⟨_, rfl, _, rfl, Cl, _, _, nV (gd cl u), rfl, rfl, .inl (.inl (g9 _ _ (g1 _ _ kC7))), atI_nat (j := u) (by rw [List.getElem?_map, gd_at (by omega)]; rfl), hq H9 (Grows.refl H9)⟩
        · rw [filter_yes, List.map_map] at hD2
          have eD : (r.2.map (clV cl ∘ nV)) = (r.2.map (gd cl)).map nV := by
            rw [List.map_map]
            exact List.map_congr_left fun u _ => rfl
          rw [eD] at hD2
          refine ⟨D2, _, rfl, .inl ⟨.inl (.inl hD2), fun t2 nt2 => ?_⟩⟩
          have g2 : Grows H9 (upd H9 t2 (.tup ((r.2.map (gd cl)).map nV))) := Grows.new nt2
          have k2 : upd H9 t2 (.tup ((r.2.map (gd cl)).map nV)) t2 = some (.tup ((r.2.map (gd cl)).map nV)) := upd_same
          generalize upd H9 t2 (.tup ((r.2.map (gd cl)).map nV)) = H10 at g2 k2 ⊢
          have g710 := (g1.trans g9).trans g2
          refine ⟨t1, t2, _, _, rfl, rfl, .inl (.inl (g2 _ _ (g9 _ _ k1))), .inl (.inl k2), by simp, by rw [List.length_map, List.length_map]; simp only [List.length_singleton]; omega, fun e => ?_, fun _ p np => ?_⟩
          · have : ((r.2.map (gd cl)).map nV).length = 0 := by rw [e]; rfl
            rw [List.length_map, List.length_map] at this
            omega
          have gp : Grows H10 (upd H10 p (.tup ([nV (gd cl k)] ++ (r.2.map (gd cl)).map nV))) := Grows.new np
          have kp : upd H10 p (.tup ([nV (gd cl k)] ++ (r.2.map (gd cl)).map nV)) p = some (.tup ((keyOf cl (gd cl k) r).map nV)) := upd_same
          generalize upd H10 p (.tup ([nV (gd cl k)] ++ (r.2.map (gd cl)).map nV)) = H11 at gp kp ⊢
          have g11 := g710.trans gp
          have kN11 := g11 _ _ kN7
          have kF11 := g11 _ _ kF7
          have ks11 : KeysAt H11 rows := KeysAt.keep (fun b xs e => g11 _ _ (gt _ _ e)) ks6
          have hkey := keysOf_at cll hr
          have tk : (keysOf cl R).take (k + 1) = (keysOf cl R).take k ++ [keyOf cl (gd cl k) r] := take_snoc hkey
          have nk := numOk ((keysOf cl R).take k)
          have len2 : (numsK ((keysOf cl R).take k)).2.length = k := by rw [nk.len, List.length_take, kl]; omega
          have rl : rows.length ≤ k := by
            have := numsK_le ((keysOf cl R).take k)
            rw [List.length_take, kl] at this
            rw [N6.1]
            omega
          have kk11 : ∀ c o, H5 c = some o → c ≠ Nd → H11 c = some o := fun c o e n => g11 _ _ (gt _ _ (kk6 c o e n))
          have Fl : ((numsK ((keysOf cl R).take k)).2.map nV).length < sizeLine := by rw [List.length_map, len2]; omega
          refine ⟨_, rfl, Nd, rows, rfl, kN11, ks11, ?_⟩
          refine ⟨rows, p, nkey (keyOf cl (gd cl k) r), kN11, ks11, rfl, nkey_at kp, nkey_depth _, by omega, fun v hv => ?_, fun hv => ?_⟩
          · obtain ⟨m1, m2⟩ := N6.there nk.nd hv
            subst m2
            refine ⟨_, kF11, Fl, fun c o e n => ?_, rows, ?_, ?_, ?_, ?_⟩
            · rw [upd_ne (nF4 e)]
              exact kk11 c o e n
            · rw [upd_ne nFN.symm]
              exact kN11
            · exact KeysAt.keep (fun b xs e => by rw [upd_ne (ne_of e kF11 (by intro z; cases z))]; exact e) ks11
            · rw [tk, numsK_snoc]
              unfold numK
              rw [if_pos m1]
              exact N6
            · rw [tk, numsK_snoc, upd_same]
              unfold numK
              rw [if_pos m1, List.map_append]
              rfl
          · have m1 := N6.gone hv
            have kF12 : upd H11 Nd (NDO P w Nd (rows ++ [(nkey (keyOf cl (gd cl k) r), p, nV rows.length)])) F = some (.lst ((numsK ((keysOf cl R).take k)).2.map nV)) := by rw [upd_ne nFN]; exact kF11
            refine ⟨_, kF12, Fl, fun c o e n => ?_, rows ++ [(nkey (keyOf cl (gd cl k) r), p, nV rows.length)], ?_, ?_, ?_, ?_⟩
            · rw [upd_ne (nF4 e), upd_ne n]
              exact kk11 c o e n
            · rw [upd_ne nFN.symm]
              exact upd_same
            · have kp11 : KeysAt H11 (rows ++ [(nkey (keyOf cl (gd cl k) r), p, nV rows.length)]) := fun q hq => by
                rcases List.mem_append.mp hq with h | h
                · exact ks11 q h
                · rw [List.mem_singleton.mp h]
                  exact ⟨nkey_at kp, nkey_depth _⟩
              exact KeysAt.keep (fun b xs e => by rw [upd_ne (ne_of e kF11 (by intro z; cases z)), upd_ne (ne_of e kN11 (by unfold NDO; intro z; cases z))]; exact e) kp11
            · rw [tk, numsK_snoc]
              unfold numK
              rw [if_neg m1]
              exact N6.snoc
            · rw [tk, numsK_snoc, upd_same]
              unfold numK
              rw [if_neg m1, List.map_append, N6.1]
              rfl
      · rintro H6 ⟨kk6, rows, kN6, ks6, N6, kF6⟩
        rw [← kl, List.take_length] at N6 kF6
        have g6 : Grows H H6 := fun c o e => kk6 c o (g5 _ _ e) (nN5 e)
        have nFH : H F = none := g5.not_new nF
        have fl := finer_at (R := R) cll
        have rows_l : rows.length = manyOf cl R := N6.1
        refine ⟨_, rfl, Nd, rows, rfl, kN6, ks6, _, rfl, rfl, _, rfl, ?_⟩
        by_cases c : manyOf cl R = many
        · refine if_pos_of (decide_eq_true (by rw [rows_l, c]; rfl)) ?_
          exact ⟨_, rfl, q H6 F (finerOf cl R) g6 nFH kF6 (whole_of W C c)⟩
        · refine if_neg_of (by rw [decide_eq_false (fun e => c (by have := V.int.inj e; omega))]; decide) ?_
          refine ⟨_, rfl, _, rfl, Nd, rows, rfl, kN6, ks6, by show 2 ≤ sizeLine; omega, fun T nT => ?_⟩
          have gT : Grows H6 (upd H6 T (.tup [.ref F, .int ((rows.length : Nat) : Int)])) := Grows.new nT
          refine ⟨T, _, rfl, .inl (.inl upd_same), rfl, _, _, rfl, _, _, rfl, rfl, ?_⟩
          have ml := many_le C
          refine ⟨F, finerOf cl R, manyOf cl R, some (.ref Nd), some (.ref F), v5, v6, v7, v8, v9, by omega, ?_, g6.trans gT, gT _ _ kF6, clOk_finer W C, many_max cll⟩
          rw [rows_l]
          rfl
end
end SWL
set_option Elab.async false
set_option linter.all false
set_option maxRecDepth 100000
set_option maxHeartbeats 8000000
namespace SWL
open PySem PySem.Spec PyProof.Rows L2 LamX NdefX
/-! least_rows -/
abbrev NLr : List Str := ["rows", "classes", "found", "at", "ends", "tos", "to"]
/-- no two stands from which the same words lead to ends -/
def Mn (m : Nat) (R : List Rw) : Prop := ∀ i j, i < R.length → j < R.length → Fut m R i j → i = j
def spLeastRows : Sp := fun vs H Q _ => ∃ (l : Addr) (m : Nat) (ws : List V) (R : List Rw), vs = [.ref l] ∧ H l = some (.lst ws) ∧ RowsAt H ws R ∧ WfR m R ∧ R.length ≤ 1000 ∧ 1 ≤ m ∧ m ≤ 1000 ∧
  ∀ (H' : Hp) (D : Addr) (ws' : List V) (R' : List Rw), Grows H H' → H D = none → H' D = some (.lst ws') → RowsAt H' ws' R' → WfR m R' → R'.length ≤ R.length → (∃ h : Nat → Nat, h 0 = 0 ∧ Along m R R' h ∧ ∀ i, i < R'.length → ∃ k, k < R.length ∧ h k = i) → Mn m R' → Q (.ref D) H'
theorem lr_onto (f : List Nat) (i : Nat) : ∀ (zs : List (Nat × Rw)) (L : List Rw), i < (zs.foldl (lrStep f) L).length → i < L.length ∨ ∃ p ∈ zs, p.1 = i
  | [], L, h => .inl h
  | p :: zs, L, h => by
    rcases lr_onto f i zs (lrStep f L p) h with h | ⟨q, hq, e⟩
    · unfold lrStep at h
      by_cases c : p.1 = L.length
      · rw [if_pos c, List.length_append, List.length_singleton] at h
        by_cases c2 : i < L.length
        · exact .inl c2
        · exact .inr ⟨p, List.mem_cons_self, by omega⟩
      · rw [if_neg c] at h
        exact .inl h
    · exact .inr ⟨q, List.mem_cons_of_mem _ hq, e⟩
section
variable {P : Program} {w : World} {K : PySem.W.Frag} {mg : Str → Option Value} {base : Heap}
theorem scLeastRows : FnScope NLr ["rows"] (defScope sLeastRows) := ⟨rfl, rfl, rfl, by decide +kernel, rfl, by decide +kernel, by decide +kernel⟩
theorem ok_leastRows {f fC : Addr} {fd fdC : FuncData} (F : L2.Fun K "least_rows" "least_rows" sLeastRows f fd) (B : Blt mg) (GC : FnOk P w K mg base CX0 1 fC fdC ["rows"] spClassed) (DC : Def mg K "classed" fC fdC ["rows"]) : FnOk P w K mg base CX0 2 f fd ["rows"] spLeastRows := by
  refine F.ok scLeastRows (fun vs H Q E h => ?_) (fun cdv A outer s H vs Q E hr h => ⟨_,
    (pss_cons (ps_asg (pe_tup (pa_cons (pe_call GC hr (by rfl) DC.g DC.k DC.b .nil pass0 (pa_cons (pv 0) pa_nil)) (pa_cons (pe_lst pa_nil) pa_nil))) (pg_tup rfl (pgs_cons (pg_name (i := 1) scLeastRows.nd rfl (Or.inr rfl)) (pgs_cons (pg_name (i := 2) scLeastRows.nd rfl (Or.inl rfl)) pgs_nil))))
      (pss_cons (ps_for PassesOwn.never rfl (pi_zip (by rfl) B.zip (pa_cons (pv 1) (pa_cons (pv 0) pa_nil))) (pg_tup rfl (pgs_cons (pg_name (i := 3) scLeastRows.nd rfl (Or.inl rfl)) (pgs_cons (pg_tup rfl (pgs_cons (pg_name (i := 4) scLeastRows.nd rfl (Or.inl rfl)) (pgs_cons (pg_name (i := 5) scLeastRows.nd rfl (Or.inl rfl)) pgs_nil))) pgs_nil))) (pss_one (ps_if (pt_cmpR op_eq (pv 3) (pe_callB call_len_seq (by rfl) B.len PySem.boot_len (pa_cons (pv 2) pa_nil)) (nomark _)) (pss_one (ps_expr (pe_bm PySem.F.plainAttrs_list PySem.F.slot_list_append PySem.F.type_list_append mt_append (pv 2) (pa_cons (pe_tup (pa_cons (pv 4) (pa_cons (pe_callTy call_tuple_of (by rfl) B.tuple (by decide +kernel) (pa_cons (pe_lc (own := [("to", 6)]) (g := (gName 6)) (tt := tYes) (te := (tOp (rIxL K) (tVar 1) (tVar 6))) rfl scLeastRows.nd (pi_tup (pv 5)) (blkOk_by (N := NLr) (sc := defScope sLeastRows) (by decide +kernel)) (fun _ _ _ _ _ => (pg_name (i := 6) scLeastRows.nd rfl (Or.inl rfl))) (fun _ _ _ _ _ => pts_nil) (fun _ _ _ _ _ => (pe_ix ix_list (pv 1) (pv 6) (fun _ _ => rfl)))) pa_nil)) pa_nil))) pa_nil)))) pss_nil)))
      (pss_one (ps_ret (pv 2))))), ?_⟩)
  · obtain ⟨l, m, ws, R, rfl, _⟩ := h
    rfl
  · obtain ⟨l, m, ws, R, rfl, hl, hR, W, hn, hm1, hm, q⟩ := h
    have sz : sizeLine = 16777216 := sizeLine_eq
    have wl := hR.len
    refine ⟨_, rfl, l, m, ws, R, rfl, hl, hR, W, hn, hm1, hm, fun H1 C f g1 nC kC Wh => ?_⟩
    have fl := Wh.len
    refine ⟨by show 0 ≤ sizeLine; omega, fun D nD => ?_⟩
    have gD : Grows H1 (upd H1 D (.lst [])) := Grows.new nD
    have kD : upd H1 D (.lst []) D = some (.lst []) := upd_same
    have kC := gD _ _ kC
    have CD : C ≠ D := fun e => by rw [e] at kC; rw [kC] at kD; have := (HO.lst.inj (Option.some.inj kD)); have h2 : (f.map nV).length = 0 := by rw [this]; rfl
                                   rw [List.length_map, fl] at h2; have := W.pos; omega
    have g2 := g1.trans gD
    have nDH : H D = none := g1.not_new nD
    generalize upd H1 D (.lst []) = H2 at gD kD kC g2 ⊢
    refine ⟨by show 2 ≤ sizeLine; omega, fun T nT => ?_⟩
    have gT : Grows H2 (upd H2 T (.tup [.ref C, .ref D])) := Grows.new nT
    have kT : upd H2 T (.tup [.ref C, .ref D]) T = some (.tup [.ref C, .ref D]) := upd_same
    have kC := gT _ _ kC
    have kD := gT _ _ kD
    have g3 := g2.trans gT
    generalize upd H2 T (.tup [.ref C, .ref D]) = H3 at gT kT kD kC g3 ⊢
    refine ⟨T, _, rfl, .inl (.inl kT), rfl, _, _, rfl, _, _, rfl, rfl, ?_⟩
    clear kT gT nT
    have nD0 : ∀ {c o}, H c = some o → c ≠ D := fun e => ne_of_none e nDH
    refine ⟨_, rfl, _, rfl, C, l, _, ws, rfl, .inl (.inl kC), .inl (.inl (g3 _ _ hl)), for_it (walk_zip (xs := f.map nV) (ys := ws) (n := R.length) (by rw [List.length_map, fl, wl, Nat.min_self]))
      (fun k σ H' => (∃ v3 v4 v5 v6 : Option V, σ = [some (.ref l), some (.ref C), some (.ref D), v3, v4, v5, v6]) ∧ (∀ c o, H3 c = some o → c ≠ D → H' c = some o) ∧ ∃ ws', H' D = some (.lst ws') ∧ RowsAt H' ws' (((f.zip R).take k).foldl (lrStep f) []))
      ⟨⟨_, _, _, _, rfl⟩, fun _ _ e _ => e, [], kD, rfl, fun k v r h => by cases h⟩ (fun _ _ H' _ hh => ⟨.inl (.inl (hh.2.1 _ _ kC CD)), .inl (.inl (hh.2.1 _ _ (g3 _ _ hl) (nD0 hl)))⟩) ?_ ?_⟩
    · rintro k y σ H4 H4' hk ⟨⟨v3, v4, v5, v6, rfl⟩, kk4, ws', kD4, R4⟩ ⟨tp, x1, x2, rfl, ntp, rfl, e1, e2⟩
      obtain ⟨r, hr, lr⟩ := W.row hk
      have ck : f[k]? = some (gd f k) := gd_at (by omega)
      have e1 : (f.map nV)[k]? = some x1 := e1
      rw [List.getElem?_map, ck] at e1
      have e1 := (Option.some.inj e1).symm
      obtain ⟨a, t, rfl, ha, ht⟩ := hR.at_ k x2 r e2 hr
      subst e1
      have gt : Grows H4 (upd H4 tp (.tup [nV (gd f k), .ref a])) := Grows.new ntp
      refine ⟨tp, _, rfl, .inl (.inl upd_same), rfl, _, _, rfl, _, _, rfl, ?_⟩
      have kD5 := gt _ _ kD4
      have R5 := R4.grows gt
      generalize upd H4 tp (.tup [nV (gd f k), .ref a]) = H5 at gt kD5 R5 ⊢
      have ha5 := gt _ _ (kk4 _ _ (g3 _ _ ha) (nD0 ha))
      have ht5 := gt _ _ (kk4 _ _ (g3 _ _ ht) (nD0 ht))
      have kC5 := gt _ _ (kk4 _ _ kC CD)
      have kk5 : ∀ c o, H3 c = some o → c ≠ D → H5 c = some o := fun c o e n => gt _ _ (kk4 c o e n)
      refine ⟨a, _, rfl, .inl (.inl ha5), rfl, _, _, rfl, _, _, rfl, rfl, rfl, ?_⟩
      have tz : (f.zip R).take (k + 1) = (f.zip R).take k ++ [(gd f k, r)] := take_snoc (List.getElem?_zip_eq_some.mpr ⟨ck, hr⟩)
      have wl5 := R5.len
      have few : (((f.zip R).take k).foldl (lrStep f) []).length ≤ R.length := by
        have := (leastRows_pre W Wh k (by omega)).1
        have h2 : cntF (f.take k) ≤ cntF f := by
          by_cases c0 : cntF (f.take k) = 0
          · omega
          · -- what is met ahead is met in all
            have gen : ∀ (a b : List Nat), cntF a ≤ cntF (a ++ b) := fun a b => by
              unfold cntF
              rw [List.foldl_append]
              generalize a.foldl (fun n x => max n (x + 1)) 0 = n
              induction b generalizing n with
              | nil => exact Nat.le_refl _
              | cons x b ih => exact Nat.le_trans (by omega) (ih (max n (x + 1)))
            have := gen (f.take k) (f.drop k)
            rwa [List.take_append_drop] at this
        have := Wh.cnt
        omega
      refine ⟨_, rfl, _, rfl, D, ws', rfl, .inl (.inl (.inl kD5)), rfl, _, rfl, ?_⟩
      have stepE : ((f.zip R).take (k + 1)).foldl (lrStep f) [] = lrStep f (((f.zip R).take k).foldl (lrStep f) []) (gd f k, r) := by rw [tz, List.foldl_append]; rfl
      rw [stepE]
      generalize ((f.zip R).take k).foldl (lrStep f) [] = L at R5 wl5 few ⊢
      by_cases c : gd f k = L.length
      · have e3 : lrStep f L (gd f k, r) = L ++ [rowBy f r] := if_pos c
        rw [e3]
        refine if_pos_of (decide_eq_true (by rw [wl5, c]; rfl)) ?_
        refine ⟨_, rfl, .inl ⟨rfl, _, .inl (.inl kD5)⟩, _, rfl, _, rfl, t, rfl, ⟨_, .inl (.inl ht5)⟩, fun D2 nD2 => ?_⟩
        refine comp (xs := r.2.map nV) walk_tup (fun _ => true) (clV f) nD2 (fun H' g => .inl (.inl (g _ _ ht5))) (by rw [List.length_map]; omega) (fun x H k _ g hk => hk H (Grows.refl H)) (fun x H9 Q hx _ g9 hq => ?_) (fun H6 g6 hD2 => ?_)
        · obtain ⟨u, hu, rfl⟩ := List.mem_map.mp hx
          obtain ⟨j, hj⟩ := List.getElem?_of_mem hu
          have ul := W.lt k r hr j u hj
          exact ⟨_, rfl, _, rfl, C, _, _, nV (gd f u), rfl, rfl, .inl (.inl (g9 _ _ kC5)), atI_nat (j := u) (by rw [List.getElem?_map, gd_at (by omega)]; rfl), hq H9 (Grows.refl H9)⟩
        · rw [filter_yes, List.map_map] at hD2
          have eD : (r.2.map (clV f ∘ nV)) = (r.2.map (gd f)).map nV := by
            rw [List.map_map]
            exact List.map_congr_left fun u _ => rfl
          rw [eD] at hD2
          refine ⟨D2, _, rfl, .inl ⟨.inl (.inl hD2), fun t2 nt2 => ?_⟩⟩
          have g7 : Grows H6 (upd H6 t2 (.tup ((r.2.map (gd f)).map nV))) := Grows.new nt2
          have k2 : upd H6 t2 (.tup ((r.2.map (gd f)).map nV)) t2 = some (.tup ((r.2.map (gd f)).map nV)) := upd_same
          generalize upd H6 t2 (.tup ((r.2.map (gd f)).map nV)) = H7 at g7 k2 ⊢
          refine ⟨by show 2 ≤ sizeLine; omega, fun p np => ?_⟩
          have gp : Grows H7 (upd H7 p (.tup [.bl r.1, .ref t2])) := Grows.new np
          have kp : upd H7 p (.tup [.bl r.1, .ref t2]) p = some (.tup [.bl r.1, .ref t2]) := upd_same
          have k2 := gp _ _ k2
          generalize upd H7 p (.tup [.bl r.1, .ref t2]) = H8 at gp kp k2 ⊢
          have g58 := (g6.trans g7).trans gp
          have kD8 := g58 _ _ kD5
          have hrow : RowAt H8 (.ref p) (rowBy f r) := ⟨p, t2, rfl, kp, k2⟩
          refine ⟨D, _, _, rfl, rfl, kD8, by rw [wl5]; omega, ?_⟩
          refine ⟨⟨_, _, _, _, rfl⟩, fun c o e n => by rw [upd_ne n]; exact g58 _ _ (kk5 c o e n), ws' ++ [.ref p], upd_same, ((R5.grows g58).put kD8).snoc (hrow.put kD8)⟩
      · have e3 : lrStep f L (gd f k, r) = L := if_neg c
        rw [e3]
        refine if_neg_of (by rw [decide_eq_false (fun e => c (by have := V.int.inj e; omega))]; decide) ?_
        exact ⟨⟨_, _, _, _, rfl⟩, kk5, ws', kD5, R5⟩
    · rintro σ H4 ⟨⟨v3, v4, v5, v6, rfl⟩, kk4, ws', kD4, R4⟩
      have zl : (f.zip R).length = R.length := by rw [List.length_zip, fl, Nat.min_self]
      rw [← zl, List.take_length] at R4
      obtain ⟨h1, h2, h3, h4⟩ := leastRows_ok W Wh
      have onto : ∀ i, i < (leastRowsF f R).length → ∃ k, k < R.length ∧ gd f k = i := fun i hi => by
        rcases lr_onto f i (f.zip R) [] hi with h | ⟨p, hp, rfl⟩
        · exact absurd h (Nat.not_lt_zero i)
        · obtain ⟨k, hk⟩ := List.getElem?_of_mem (List.of_mem_zip (a := p.1) (b := p.2) hp).1
          have kl := (List.getElem?_eq_some_iff.mp hk).1
          exact ⟨k, by omega, gd_of hk⟩
      refine ⟨_, rfl, q H4 D ws' _ (fun c o e => kk4 c o (g3 _ _ e) (nD0 e)) nDH kD4 R4 h1 h2 ⟨gd f, h4, h3, onto⟩ fun i j hi hj h => ?_⟩
      · obtain ⟨k, k1, rfl⟩ := onto i hi
        obtain ⟨k', k2, rfl⟩ := onto j hj
        refine Wh.fut m W k k' k1 k2 fun w hw => ?_
        exact (along_tk h3 k1 hw).symm.trans ((h w hw).trans (along_tk h3 k2 hw))
end
end SWL
set_option Elab.async false
set_option linter.all false
set_option maxRecDepth 100000
set_option maxHeartbeats 8000000
namespace SWL
open PySem PySem.Spec PyProof.Rows L2 LamX NdefX
/-! built: the least machine of a walk -/
abbrev NBu : List Str := ["letters", "begin", "step", "ends", "most", "rows"]
/-- the same words from the first stand on as from that one -/
def Same (m : Nat) (R' R : List Rw) (b : Nat) : Prop := ∀ w : List Nat, (∀ j ∈ w, j < m) → tkR R' 0 w = tkR R b w
def spBuilt (P : Program) (w : World) (K : PySem.W.Frag) (mg : Str → Option Value) (base : Heap) (k : Nat) (C : Addr) : SpH := fun vs h H Q _ => ∃ (ls : Str) (fs fe : Addr) (b : Nat) (R : List Rw), vs = [.str ls, nV b, .ref fs, .ref fe, .int 60] ∧ okLetters ls = true ∧ ls.length ≤ 1000 ∧ 1 ≤ ls.length ∧ ls.cps.toList.Nodup ∧ WfR ls.length R ∧ R.length ≤ 60 ∧ b < R.length ∧
  Clo P w K mg base k h H fs (spStep H ls.cps.toList R) ∧ Clo P w K mg base k h H fe (spEnds H R) ∧
  ∀ (H' : Hp) (x : Addr) (R' : List Rw), Grows H H' → H x = none → MachAt H' x C ls R' → WfR ls.length R' → R'.length ≤ R.length → Same ls.length R' R b → Reach ls.length R' → Mn ls.length R' → Q (.ref x) H'
theorem spStep_up {H H' : Hp} (g : Grows H H') {ls : List Nat} {R : List Rw} {vs : List V} {H2 : Hp} {Q : VK} (h : spStep H' ls R vs H2 Q E0) : spStep H ls R vs H2 Q E0 := by
  obtain ⟨s, c, h1, h2, h3, h4, h5⟩ := h
  exact ⟨s, c, h1, h2, h3, g.trans h4, h5⟩
theorem spEnds_up {H H' : Hp} (g : Grows H H') {R : List Rw} {vs : List V} {H2 : Hp} {Q : VK} (h : spEnds H' R vs H2 Q E0) : spEnds H R vs H2 Q E0 := by
  obtain ⟨s, h1, h2, h3, h4⟩ := h
  exact ⟨s, h1, h2, g.trans h3, h4⟩
/-- what built asks of gone_through -/
def spGoneB (H : Hp) (ls : Str) (fs fe : Addr) (b : Nat) (R : List Rw) : L2.St → Sp := fun _ vs H2 Q _ => vs = [.str ls, nV b, .ref fs, .ref fe] ∧ Grows H H2 ∧ ∀ (H' : Hp) (D : Addr) (ws : List V) (R' : List Rw), Grows H2 H' → H2 D = none → H' D = some (.lst ws) → RowsAt H' ws R' → WfR ls.length R' → R'.length ≤ R.length → (∃ o, gd o 0 = b ∧ Along ls.length R' R (gd o)) → Reach ls.length R' → Q (.ref D) H'
section
variable {P : Program} {w : World} {K : PySem.W.Frag} {mg : Str → Option Value} {base : Heap}
theorem scBuilt : FnScope NBu ["letters", "begin", "step", "ends", "most"] (defScope sBuilt) := ⟨rfl, rfl, rfl, by decide +kernel, rfl, by decide +kernel, by decide +kernel⟩
theorem ok_built {f fG fR fI C : Addr} {fdG fdR fdI : FuncData} {oc kV doc pm cdv ct : Value} {an od : Option Addr} {osl : Array (Option Value)} (lk : K.lookup f = some ⟨oc, od, .func (PySem.W.fnOf "built" "built" (defArgs sBuilt) (defBody sBuilt) (defScope sBuilt) .none kV doc pm an cdv ct), osl⟩)
    (hcd : PySem.W.codeIn K cdv "built" = true) (B : Blt mg)
    (GG : FnH P w K mg base 8 fG fdG ["letters", "begin", "step", "ends"] (spGone P w K mg base 4)) (DG : Def mg K "gone_through" fG fdG ["letters", "begin", "step", "ends"])
    (GR : FnOk P w K mg base CX0 2 fR fdR ["rows"] spLeastRows) (DR : Def mg K "least_rows" fR fdR ["rows"])
    (M : Mk K C fI) (mgC : mg "Machine" = some (.ref C)) (GI : FnOk P w K mg base CX0 4 fI fdI ["self", "letters", "rows"] (spMInit K C)) (bI : Binds K fdI ["self", "letters", "rows"] []) :
    FnH P w K mg base 10 f (PySem.W.fnOf "built" "built" (defArgs sBuilt) (defBody sBuilt) (defScope sBuilt) .none kV doc pm an cdv ct) ["letters", "begin", "step", "ends", "most"] (spBuilt P w K mg base 4 C) := by
  refine fnh_ok lk hcd scBuilt (fun vs h H Q E hs => ?_) fun A outer s H vs Q E hr hs => ?_
  · obtain ⟨ls, fs, fe, b, R, rfl, _⟩ := hs
    rfl
  · obtain ⟨ls, fs, fe, b, R, rfl, hok, hls, hl1, hnd, W, hRl, hb, ⟨Fs, pss, frs, wss, spS, fs1, fs2, Cs, Ns, impS⟩, ⟨Fe, pse, fre, wse, spE, fe1, fe2, Ce, Ne, impE⟩, q⟩ := hs
    have hG : ∀ pins σ H2 s2 vs2 Q2, Inv (cxOf CX0 P w K mg base NBu "built" (defScope sBuilt) f cdv A outer s H E).nox pins σ H2 s2 → spGoneB H ls fs fe b R σ vs2 H2 Q2 E0 → spGone P w K mg base 4 vs2 s2.heap H2 Q2 E0 := fun pins σ H2 s2 vs2 Q2 I ⟨e1, g, k⟩ =>
      ⟨ls, fs, fe, b, R, e1, hls, hnd, W, by omega, hb, ⟨Fs, pss, frs, wss, spS, g _ _ fs1, g _ _ fs2, CellsAt.on Cs rfl I, Ns, fun vs H' Q h => impS vs H' Q (spStep_up g h)⟩,
        ⟨Fe, pse, fre, wse, spE, g _ _ fe1, g _ _ fe2, CellsAt.on Ce rfl I, Ne, fun vs H' Q h => impE vs H' Q (spEnds_up g h)⟩, k⟩
    refine ⟨_,
    (pss_cons (ps_set (i := 5) scBuilt.nd rfl (Or.inl rfl) (pe_call GR (hr.mono (by decide)) (by rfl) DR.g DR.k DR.b .nil pass0 (pa_cons (pe_callH GG (hr.mono (by decide)) (by rfl) DG.g DG.k DG.b .nil (sp := spGoneB H ls fs fe b R) hG (pa_cons (pv 0) (pa_cons (pv 1) (pa_cons (pv 2) (pa_cons (pv 3) pa_nil))))) pa_nil)))
      (pss_cons (ps_if (pt_cmpR op_gt (pe_callB call_len_seq (by rfl) B.len PySem.boot_len (pa_cons (pv 5) pa_nil)) (pv 4) (nomark _)) pss_no pss_nil)
      (pss_one (ps_ret (pe_make M GI (hr.mono (by decide)) (by rfl) mgC bI .nil pass0 (pa_cons (pv 0) (pa_cons (pv 5) pa_nil))))))), ?_⟩
    have sz : sizeLine = 16777216 := sizeLine_eq
    refine ⟨_, rfl, _, rfl, _, rfl, _, rfl, rfl, Grows.refl H, fun H1 D ws R1 g1 nD kD R1at W1 le1 ⟨o, o0, A1⟩ rch1 => ?_⟩
    refine ⟨D, ls.length, ws, R1, rfl, kD, R1at, W1, by omega, hl1, hls, fun H2 D2 ws2 R2 g2 nD2 kD2 R2at W2 le2 ⟨hh, h0, A2, onto⟩ mn2 => ?_⟩
    have wl := R2at.len
    refine ⟨_, rfl, D2, ws2, rfl, .inl (.inl (.inl kD2)), _, rfl, _, _, rfl, rfl, _, rfl, if_neg_of (by rw [decide_eq_false (by omega)]; decide) ?_⟩
    refine ⟨_, rfl, _, rfl, fun x dx nx ndx dne => ?_⟩
    have gM : Grows H2 (upd (upd H2 dx (.own x)) x (.ins C dx [])) := fun c o e => by
      rw [upd_ne (ne_of_none e nx), upd_ne (ne_of_none e ndx)]
      exact e
    refine ⟨x, dx, D2, ls, ws2, R2, rfl, upd_same, hok, hls, gM _ _ kD2, R2at.grows gM, W2, by omega, fun H3 L h1 h2 h3 h4 h5 => ⟨rfl, ?_⟩⟩
    have g23 : Grows H2 H3 := fun c o e => h5 c o (ne_of_none e nx) (gM _ _ e)
    refine q H3 x R2 ((g1.trans g2).trans g23) ((g1.trans g2).not_new nx) ⟨dx, L, ws2, h1, h4, R2at.grows g23⟩ W2 (by omega) (fun v hv => ?_) (fun i hi => ?_) mn2
    rotate_left
    · obtain ⟨k, k1, k2⟩ := onto i hi
      obtain ⟨v, v1, v2⟩ := rch1 k k1
      refine ⟨v, v1, ?_⟩
      have := (along_run A2 (w := v) (s := 0) W1.pos v1).1
      rw [v2, h0, k2] at this
      exact this.symm
    have a2 := along_tk A2 W1.pos hv
    have a1 := along_tk A1 W1.pos hv
    rw [h0] at a2
    rw [o0] at a1
    rw [a2, a1]
end
end SWL
set_option Elab.async false
set_option linter.all false
set_option maxRecDepth 100000
set_option maxHeartbeats 8000000
namespace SWL
open PySem PySem.Spec PyProof.Rows L2 LamX NdefX
/-! least: the least machine of the same words -/
abbrev sStep : Stmt := (defBody sLeastM).getD 1 (.Pass ⟨0, 0, 0, 0⟩)
abbrev sEnds : Stmt := (defBody sLeastM).getD 2 (.Pass ⟨0, 0, 0, 0⟩)
def stLine (s : Stmt) : Nat := match s with
  | .FunctionDef _ _ _ _ _ _ _ _ _ pos => pos.line
  | _ => 0
def qLe (z : Str) : Str := (envOfC "least" (defScope sLeastM) 0 0 .none).qual ++ z
def nmL (l _c : Nat) : Str := if l = stLine sStep then qLe "step" else qLe "ends"
def spStepN (ws : List (Option V)) : Sp := fun vs H Q _ => ∃ (ls : Str) (L : Addr) (xs : List V) (R : List Rw) (s c : Nat), ws = [some (.str ls), some (.ref L)] ∧ vs = [nV s, .str (sg c)] ∧ H L = some (.lst xs) ∧ RowsAt H xs R ∧ WfR ls.length R ∧ s < R.length ∧ c ∈ ls.cps.toList ∧ ls.cps.toList.Nodup ∧
  Q (nV (toR R s (ls.cps.toList.idxOf c))) H
def spEndsN (ws : List (Option V)) : Sp := fun vs H Q _ => ∃ (L : Addr) (xs : List V) (R : List Rw) (s : Nat), ws = [some (.ref L)] ∧ vs = [nV s] ∧ H L = some (.lst xs) ∧ RowsAt H xs R ∧ s < R.length ∧ Q (.bl (acR R s)) H
abbrev NStp : List Str := ["stand", "letter", "letters", "rows"]
abbrev NEns : List Str := ["stand", "rows"]
abbrev NLe : List Str := ["machine", "step", "ends", "letters", "rows"]
section
variable {P : Program} {w : World} {K : PySem.W.Frag} {mg : Str → Option Value} {base : Heap}
theorem ok_step {f c' : Addr} {q : Str} {cl : List (Str × Addr)} : NOk P w K mg base CX0 1 f (NF.of sStep "step" q cl c') ["stand", "letter"] ["letters", "rows"] spStepN := by
  refine nok_of (N := NStp) (nscope_by (show nscB NStp ["stand", "letter"] ["letters", "rows"] (C8.fnScope sStep) = true by decide +kernel)) (fun doc pm ctv us hl => match us, hl with | [_, _], _ => rfl) (fun ws vs H Q E h => ?_) (fun A outer s H vs ws Q E hr hf hc hw h => ⟨_,
    (pss_one (ps_ret (pe_ix ix_tup (pe_ix ix_tup (pe_ix ix_list (pv 3) (pv 0) (fun _ _ => rfl)) pe_int (fun _ _ => rfl)) (pe_m1 PySem.F.slot_str_index PySem.F.type_str_index mt_index (pv 2) (pv 1)) (fun _ _ => rfl)))), ?_⟩)
  · obtain ⟨ls, L, xs, R, s, c, _, rfl, _⟩ := h
    rfl
  · obtain ⟨ls, L, xs, R, s, c, rfl, rfl, hL, hR, W, hs, hc2, nd, q⟩ := h
    obtain ⟨r, hr1, lr⟩ := W.row hs
    have hs2 : s < xs.length := by rw [hR.len]; exact hs
    have e1 : xs[s]? = some xs[s] := List.getElem?_eq_getElem hs2
    obtain ⟨a, t, ea, ha, ht⟩ := hR.at_ s _ r e1 hr1
    rw [ea] at e1
    have il := List.idxOf_lt_length_of_mem hc2
    rw [cut_len] at il
    have e2 := (W.to hs il).2 r hr1
    refine ⟨_, rfl, _, rfl, L, xs, _, .ref a, rfl, rfl, .inl (.inl hL), atI_nat (j := s) e1, a, _, _, _, rfl, rfl, .inl (.inl ha), atI_nat (j := 1) rfl, ?_⟩
    refine ⟨_, rfl, ⟨ls, rfl⟩, _, rfl, ls, c, rfl, rfl, hc2, fun i hi hn => ?_⟩
    have ei : i = ls.cps.toList.idxOf c := by
      have h1 := List.getElem?_eq_some_iff.mp hi
      rw [← h1.2]
      exact (nd.idxOf_getElem i h1.1).symm
    subst ei
    exact ⟨t, _, _, _, rfl, rfl, .inl (.inl ht), atI_nat (j := ls.cps.toList.idxOf c) (by rw [List.getElem?_map, e2]; rfl), q⟩
theorem ok_ends {f c' : Addr} {q : Str} {cl : List (Str × Addr)} : NOk P w K mg base CX0 1 f (NF.of sEnds "ends" q cl c') ["stand"] ["rows"] spEndsN := by
  refine nok_of (N := NEns) (nscope_by (show nscB NEns ["stand"] ["rows"] (C8.fnScope sEnds) = true by decide +kernel)) (fun doc pm ctv us hl => match us, hl with | [_], _ => rfl) (fun ws vs H Q E h => ?_) (fun A outer s H vs ws Q E hr hf hc hw h => ⟨_,
    (pss_one (ps_ret (pe_ix ix_tup (pe_ix ix_list (pv 1) (pv 0) (fun _ _ => rfl)) pe_int (fun _ _ => rfl)))), ?_⟩)
  · obtain ⟨L, xs, R, s, _, rfl, _⟩ := h
    rfl
  · obtain ⟨L, xs, R, s, rfl, rfl, hL, hR, hs, q⟩ := h
    have hs2 : s < xs.length := by rw [hR.len]; exact hs
    have e1 : xs[s]? = some xs[s] := List.getElem?_eq_getElem hs2
    have hr1 : R[s]? = some R[s] := List.getElem?_eq_getElem hs
    obtain ⟨a, t, ea, ha, ht⟩ := hR.at_ s _ _ e1 hr1
    rw [ea] at e1
    rw [acR_of hr1] at q
    exact ⟨_, rfl, _, rfl, L, xs, _, .ref a, rfl, rfl, .inl (.inl hL), atI_nat (j := s) e1, a, _, _, _, rfl, rfl, .inl (.inl ha), atI_nat (j := 0) rfl, q⟩
def spLeastM (C Pl : Addr) : Sp := fun vs H Q _ => ∃ (x : Addr) (ls : Str) (R : List Rw), vs = [.ref x] ∧ MachAt H x C ls R ∧ okLetters ls = true ∧ ls.length ≤ 1000 ∧ 1 ≤ ls.length ∧ ls.cps.toList.Nodup ∧ WfR ls.length R ∧ R.length ≤ 60 ∧ TabsN [(Pl, nmL)] H ∧
  ∀ (H' : Hp) (x' : Addr) (R' : List Rw), ExtN H H' → (∀ b, H' b = none → H b = none) → TabsN [(Pl, nmL)] H' → H x' = none → MachAt H' x' C ls R' → WfR ls.length R' → R'.length ≤ R.length → Same ls.length R' R 0 → Reach ls.length R' → Mn ls.length R' → Q (.ref x') H'
theorem RowsAt.ext {H H' : Hp} (g : ExtN H H') {vs : List V} {R : List Rw} (h : RowsAt H vs R) : RowsAt H' vs R := ⟨h.len, fun k v r h1 h2 => by
  obtain ⟨a, t, e1, e2, e3⟩ := h.at_ k v r h1 h2
  exact ⟨a, t, e1, g _ _ e2 (by intro ps z; cases z), g _ _ e3 (by intro ps z; cases z)⟩⟩
theorem MachAt.ext {H H' : Hp} (g : ExtN H H') {x C : Addr} {ls : Str} {R : List Rw} (h : MachAt H x C ls R) : MachAt H' x C ls R := by
  obtain ⟨dx, L, vs, h1, h2, h3⟩ := h.obj
  exact ⟨dx, L, vs, g _ _ h1 (by intro ps z; cases z), g _ _ h2 (by intro ps z; cases z), h3.ext g⟩
theorem scLeastM : FnScope NLe ["machine"] (defScope sLeastM) := ⟨rfl, rfl, rfl, by decide +kernel, rfl, by decide +kernel, by decide +kernel⟩
/-- what least asks of built: its own functions, as its names hold them -/
def spBuiltL (H0 : Hp) (mkS mkE : Addr → NF) (C : Addr) : L2.St → Sp := fun σ vs H Q _ => ∃ (ls : Str) (fs fe cs ce L : Addr) (xs : List V) (R : List Rw), slotAt σ 3 = some (.str ls) ∧ slotAt σ 4 = some (.ref L) ∧ vs = [.str ls, nV 0, .ref fs, .ref fe, .int 60] ∧ okLetters ls = true ∧ ls.length ≤ 1000 ∧ 1 ≤ ls.length ∧ ls.cps.toList.Nodup ∧ WfR ls.length R ∧ R.length ≤ 60 ∧
  H fs = some (FnO fs (mkS cs)) ∧ H (mkS cs).c = some (CodeO (mkS cs).c (mkS cs).qual) ∧ H fe = some (FnO fe (mkE ce)) ∧ H (mkE ce).c = some (CodeO (mkE ce).c (mkE ce).qual) ∧ H L = some (.lst xs) ∧ RowsAt H xs R ∧
  ∀ (H' : Hp) (x : Addr) (R' : List Rw), Grows H H' → H x = none → MachAt H' x C ls R' → WfR ls.length R' → R'.length ≤ R.length → Same ls.length R' R 0 → Reach ls.length R' → Mn ls.length R' → Q (.ref x) H'
theorem ok_leastM {f fB fI fl fr C cL Pl : Addr} {fdB fdl fdr : FuncData} {oc kV doc pm ct : Value} {an od : Option Addr} {osl : Array (Option Value)} (lk : K.lookup f = some ⟨oc, od, .func (PySem.W.fnOf "least" "least" (defArgs sLeastM) (defBody sLeastM) (defScope sLeastM) .none kV doc pm an (.ref cL) ct), osl⟩)
    (hcd : PySem.W.codeIn K (.ref cL) "least" = true) (TB : TabB base mg cL Pl) (TC : McC K mg C fl fr)
    (GML : FnOk P w K mg base CX0 1 fl fdl ["self"] (spMLet C)) (bL : Binds K fdl ["self"] []) (GMR : FnOk P w K mg base CX0 1 fr fdr ["self"] (spMRow C)) (bR : Binds K fdr ["self"] [])
    (GB : FnH P w K mg base 10 fB fdB ["letters", "begin", "step", "ends", "most"] (spBuilt P w K mg base 4 C)) (gB : mg "built" = some (.ref fB)) (kB : PySem.W.keepIn K (.ref fB) = true) {ds : List Value} (vdB : Vals [V.int 60] ds) (bdB : L2.Binds K fdB ["letters", "begin", "step", "ends", "most"] ds) :
    FnOk P w K mg base CX0 11 f (PySem.W.fnOf "least" "least" (defArgs sLeastM) (defBody sLeastM) (defScope sLeastM) .none kV doc pm an (.ref cL) ct) ["machine"] (spLeastM C Pl) := by
  refine ⟨fun vs H Q E h => (by obtain ⟨x, ls, R, rfl, _⟩ := h; rfl), fun A outer s H args us vs Q E hr0 e0 hb r h => run_ofS (k := 10) lk hcd scLeastM hr0 e0 hb r (by obtain ⟨x, ls, R, rfl, _⟩ := h; rfl) fun hr => ?_⟩
  obtain ⟨x, ls, R, rfl, M, hok, hls, hl1, hnd, W, h60, tab, q⟩ := h
  have sz : sizeLine = 16777216 := sizeLine_eq
  let X := (cxOf CX0 P w K mg base NLe "least" (defScope sLeastM) f (.ref cL) A outer s H E).nox
  let mkS : Addr → NF := NF.of sStep "step" (X.env.qual ++ "step") (cloFrom X.env.cells (C8.fnScope sStep).names [])
  let mkE : Addr → NF := NF.of sEnds "ends" (X.env.qual ++ "ends") (cloFrom X.env.cells (C8.fnScope sEnds).names [])
  have hB : ∀ pins σ H2 s2 vs2 Q2, Inv X pins σ H2 s2 → spBuiltL H mkS mkE C σ vs2 H2 Q2 E0 → spBuilt P w K mg base 4 C vs2 s2.heap H2 Q2 E0 := by
    intro pins σ H2 s2 vs2 Q2 I ⟨ls, fs, fe, cs, ce, L, xs, R, s3, s4, e1, h1, h2, h3, h4, h5, h6, k1, k2, k3, k4, kL, kR, k⟩
    have C1 : CellsAt (mkS cs).cl ["letters", "rows"] ([3, 4].map (slotAt σ)) s2.heap H2 := cells_of I (Caps.made I.ok (ndef_free (sc := defScope sLeastM) (nsc := C8.fnScope sStep) (fr := ["letters", "rows"]) (by decide +kernel)) (ndef_fr (sc := defScope sLeastM) (by decide +kernel)) rfl)
    have C2 : CellsAt (mkE ce).cl ["rows"] ([4].map (slotAt σ)) s2.heap H2 := cells_of I (Caps.made I.ok (ndef_free (sc := defScope sLeastM) (nsc := C8.fnScope sEnds) (fr := ["rows"]) (by decide +kernel)) (ndef_fr (sc := defScope sLeastM) (by decide +kernel)) rfl)
    refine ⟨ls, fs, fe, 0, R, e1, h1, h2, h3, h4, h5, h6, h5.pos, ⟨mkS cs, _, _, _, spStepN, k1, k2, C1, ok_step.mono (by decide), fun vs H' Q hq => ?_⟩, ⟨mkE ce, _, _, _, spEndsN, k3, k4, C2, ok_ends.mono (by decide), fun vs H' Q hq => ?_⟩, k⟩
    · obtain ⟨z, c, rfl, z1, z2, g, qq⟩ := hq
      exact ⟨ls, L, xs, R, z, c, by show [slotAt σ 3, slotAt σ 4] = _; rw [s3, s4], rfl, g _ _ kL, kR.grows g, h5, z1, z2, h4, qq H' (Grows.refl H')⟩
    · obtain ⟨z, rfl, z1, g, qq⟩ := hq
      exact ⟨L, xs, R, z, by show [slotAt σ 4] = _; rw [s4], rfl, g _ _ kL, kR.grows g, z1, qq H' (Grows.refl H')⟩
  refine ⟨_, PSs.nox (pss_cons (ps_asg (pe_tup (pa_cons (pe_meth0 (pv 0) TC.cl TC.mR GMR (hr.mono (by decide)) bR .nil pass0) (pa_cons (pe_meth0 (pv 0) TC.cl TC.mL GML (hr.mono (by decide)) bL .nil pass0) pa_nil))) (pg_tup rfl (pgs_cons (pg_name (i := 4) scLeastM.nd rfl (Or.inr rfl)) (pgs_cons (pg_name (i := 3) scLeastM.nd rfl (Or.inr rfl)) pgs_nil))))
      (pss_cons (ps_ndefMS (st := sStep) (T := [(Pl, nmL)]) (i := 1) rfl TB rfl List.mem_cons_self (if_pos rfl) (fun p hp e => by cases List.mem_singleton.mp hp; rfl) (ndef_free (sc := defScope sLeastM) (nsc := C8.fnScope sStep) (fr := ["letters", "rows"]) (by decide +kernel)) rfl rfl rfl scLeastM.nd rfl (Or.inl rfl) (Or.inr rfl))
      (pss_cons (ps_ndefMS (st := sEnds) (T := [(Pl, nmL)]) (i := 2) rfl TB rfl List.mem_cons_self (if_neg (by decide +kernel)) (fun p hp e => by cases List.mem_singleton.mp hp; rfl) (ndef_free (sc := defScope sLeastM) (nsc := C8.fnScope sEnds) (fr := ["rows"]) (by decide +kernel)) rfl rfl rfl scLeastM.nd rfl (Or.inl rfl) (Or.inr rfl))
      (pss_one (ps_ret (pe_callH GB (hr.mono (by decide)) (by rfl) gB kB bdB vdB (sp := spBuiltL H mkS mkE C) hB (pa_cons (pv 3) (pa_cons pe_int (pa_cons (pv 1) (pa_cons (pv 2) pa_nil)))))))))), ?_⟩
  obtain ⟨dx, L0, vs0, m1, m2, m3⟩ := id M.obj
  refine ⟨_, rfl, x, dx, _, rfl, m1, mcf_no ls L0 (by decide +kernel) (by decide +kernel), x, ls, R, rfl, M, fun L xs nL hR => ?_⟩
  have gL : Grows H (upd H L (.lst xs)) := Grows.new nL
  have kL : upd H L (.lst xs) L = some (.lst xs) := upd_same
  have kR := hR.grows gL
  have M1 := M.grows gL
  generalize upd H L (.lst xs) = H1 at gL kL kR M1 ⊢
  obtain ⟨dx1, L1, vs1, n1, n2, n3⟩ := id M1.obj
  refine ⟨_, rfl, x, dx1, _, rfl, n1, mcf_no ls L1 (by decide +kernel) (by decide +kernel), x, ls, R, rfl, M1, ?_⟩
  refine ⟨by show 2 ≤ sizeLine; omega, fun T nT => ?_⟩
  have gT : Grows H1 (upd H1 T (.tup [.ref L, .str ls])) := Grows.new nT
  have kT : upd H1 T (.tup [.ref L, .str ls]) T = some (.tup [.ref L, .str ls]) := upd_same
  have kL := gT _ _ kL
  have kR := kR.grows gT
  have g2 := gL.trans gT
  generalize upd H1 T (.tup [.ref L, .str ls]) = H2 at gT kT kL kR g2 ⊢
  refine ⟨T, _, rfl, .inl (.inl kT), rfl, _, _, rfl, _, _, rfl, rfl, ?_⟩
  refine ⟨tab.ext g2, fun fs cs H3 x3 nn3 t3 nfs hfs hcs => ?_⟩
  refine ⟨t3, fun fe ce H4 x4 nn4 t4 nfe hfe hce => ?_⟩
  have x24 := x3.trans x4
  have kL4 := x24 _ _ kL (by intro ps z; cases z)
  have kR4 := kR.ext x24
  have hfs4 := x4 _ _ hfs (fnO_ne (F := mkS cs))
  have hcs4 := x4 _ _ hcs (by intro ps; unfold CodeO; intro z; cases z)
  refine ⟨_, rfl, _, rfl, _, rfl, ls, fs, fe, cs, ce, L, xs, R, rfl, rfl, rfl, hok, hls, hl1, hnd, W, h60, hfs4, hcs4, hfe, hce, kL4, kR4, fun H5 x' R' g5 nx M5 W5 l5 S5 rc5 mn5 => ?_⟩
  refine q H5 x' R' ((ExtN.of g2).trans (x24.trans (ExtN.of g5))) (fun b e => ?_) (t4.ext g5) ?_ M5 W5 l5 S5 rc5 mn5
  · exact g2.not_new (nn3 b (nn4 b (g5.not_new e)))
  · exact g2.not_new (nn3 x' (nn4 x' nx))
end
end SWL
set_option Elab.async false
set_option linter.all false
set_option maxRecDepth 100000
set_option maxHeartbeats 4000000
namespace SWL
/-! doings of words at all stands; what is told by turns, by the words alone -/
abbrev Lw (m : Nat) (w : List Nat) : Prop := ∀ j ∈ w, j < m
theorem Lw.app {m : Nat} {u v : List Nat} (hu : Lw m u) (hv : Lw m v) : Lw m (u ++ v) := fun j hj => (List.mem_append.mp hj).elim (hu j) (hv j)
theorem Lw.nil {m : Nat} : Lw m [] := fun j hj => by cases hj
theorem toR_lt' {m : Nat} {R : List Rw} (W : WfR m R) {s j : Nat} (h : s < R.length) : toR R s j < R.length := by
  by_cases c : j < m
  · exact (W.to h c).1
  · obtain ⟨r, e, l⟩ := W.row h
    unfold toR
    rw [e]
    show r.2.getD j 0 < _
    rw [List.getD_eq_getElem?_getD, List.getElem?_eq_none (by omega)]
    exact W.pos
theorem runR_lt' {m : Nat} {R : List Rw} (W : WfR m R) : ∀ {w : List Nat} {s : Nat}, s < R.length → runR R s w < R.length
  | [], _, h => h
  | j :: w, s, h => runR_lt' W (w := w) (toR_lt' W h)
def doW (R : List Rw) (w : List Nat) : List Nat := (List.range R.length).map fun s => runR R s w
def cmp (one other : List Nat) : List Nat := one.map (gd other)
theorem doW_len (R : List Rw) (w : List Nat) : (doW R w).length = R.length := by unfold doW; rw [List.length_map, List.length_range]
theorem doW_at {R : List Rw} {w : List Nat} {s : Nat} (h : s < R.length) : (doW R w)[s]? = some (runR R s w) := by
  unfold doW
  rw [List.getElem?_map, List.getElem?_range h]
  rfl
theorem doW_gd {R : List Rw} {w : List Nat} {s : Nat} (h : s < R.length) : gd (doW R w) s = runR R s w := gd_of (doW_at h)
theorem doW_eq {R : List Rw} {u v : List Nat} : doW R u = doW R v ↔ ∀ s, s < R.length → runR R s u = runR R s v := by
  refine ⟨fun h s hs => by rw [← doW_gd hs, h, doW_gd hs], fun h => ?_⟩
  unfold doW
  exact List.map_congr_left fun s hs => h s (List.mem_range.mp hs)
theorem doW_app {m : Nat} {R : List Rw} (W : WfR m R) (u v : List Nat) : doW R (u ++ v) = cmp (doW R u) (doW R v) := by
  show _ = (doW R u).map _
  unfold doW
  rw [List.map_map]
  refine List.map_congr_left fun s hs => ?_
  have hs := List.mem_range.mp hs
  rw [runR_app]
  exact (doW_gd (runR_lt' W hs)).symm
theorem doW_nil (R : List Rw) : doW R [] = List.range R.length := by
  unfold doW
  exact List.map_id'' (fun _ => rfl) _
theorem doW_cong {m : Nat} {R : List Rw} (W : WfR m R) {u u' v v' : List Nat} (h1 : doW R u = doW R u') (h2 : doW R v = doW R v') : doW R (u ++ v) = doW R (u' ++ v') := by rw [doW_app W, doW_app W, h1, h2]
/-- all doings of words -/
structure Elems (m : Nat) (R : List Rw) (E : List (List Nat)) : Prop where
  nd : E.Nodup
  of : ∀ d ∈ E, ∃ w, Lw m w ∧ d = doW R w
  all : ∀ w, Lw m w → doW R w ∈ E
/-! powers -/
def pw (w : List Nat) (n : Nat) : List Nat := (List.replicate n w).flatten
theorem pw_zero (w : List Nat) : pw w 0 = [] := rfl
theorem pw_succ (w : List Nat) (n : Nat) : pw w (n + 1) = w ++ pw w n := by unfold pw; rw [List.replicate_succ, List.flatten_cons]
theorem pw_one (w : List Nat) : pw w 1 = w := by rw [pw_succ, pw_zero, List.append_nil]
theorem pw_add (w : List Nat) (a b : Nat) : pw w (a + b) = pw w a ++ pw w b := by
  unfold pw
  rw [← List.replicate_append_replicate, List.flatten_append]
theorem pw_snoc (w : List Nat) (n : Nat) : pw w (n + 1) = pw w n ++ w := by rw [pw_add, pw_one]
theorem pw_lw {m : Nat} {w : List Nat} (h : Lw m w) : ∀ n, Lw m (pw w n)
  | 0 => Lw.nil
  | n + 1 => by rw [pw_succ]; exact h.app (pw_lw h n)
theorem pw_mem {w : List Nat} {n c : Nat} (h : c ∈ pw w n) : c ∈ w := by
  unfold pw at h
  obtain ⟨l, hl, hc⟩ := List.mem_flatten.mp h
  rw [List.eq_of_mem_replicate hl] at hc
  exact hc
theorem pigeon {m : Nat} {R : List Rw} {E : List (List Nat)} (El : Elems m R E) {w : List Nat} (hw : Lw m w) : ∃ i p, 1 ≤ i ∧ 1 ≤ p ∧ i + p ≤ E.length + 1 ∧ doW R (pw w (i + p)) = doW R (pw w i) := by
  refine Classical.byContradiction fun no => ?_
  have nd : ((List.range (E.length + 1)).map fun i => doW R (pw w (i + 1))).Nodup := by
    rw [List.nodup_iff_pairwise_ne, List.pairwise_map]
    refine List.Pairwise.imp_of_mem ?_ (List.pairwise_lt_range)
    intro i j hi hj hij e
    have hj := List.mem_range.mp hj
    exact no ⟨i + 1, j - i, by omega, by omega, by omega, by rw [show i + 1 + (j - i) = j + 1 by omega]; exact e.symm⟩
  have := nodup_sub_len _ E nd fun d hd => by
    obtain ⟨i, _, rfl⟩ := List.mem_map.mp hd
    exact El.all _ (pw_lw hw _)
  rw [List.length_map, List.length_range] at this
  omega
theorem period {m : Nat} {R : List Rw} (W : WfR m R) {w : List Nat} {i p : Nat} (h : doW R (pw w (i + p)) = doW R (pw w i)) : ∀ t n, i ≤ n → doW R (pw w (n + t * p)) = doW R (pw w n)
  | 0, n, _ => by rw [Nat.zero_mul]; rfl
  | t + 1, n, hn => by
    rw [← period W h t n hn, show n + (t + 1) * p = (i + p) + (n - i + t * p) by rw [Nat.succ_mul]; omega, show n + t * p = i + (n - i + t * p) by omega, pw_add w (i + p), pw_add w i (n - i + t * p)]
    exact doW_cong W h rfl
theorem idem {m : Nat} {R : List Rw} {E : List (List Nat)} (W : WfR m R) (El : Elems m R E) {w : List Nat} (hw : Lw m w) : ∃ k, 1 ≤ k ∧ doW R (pw w (k + k)) = doW R (pw w k) := by
  obtain ⟨i, p, h1, h2, _, h⟩ := pigeon El hw
  have hip : i ≤ i * p := Nat.le_mul_of_pos_right i (by omega)
  exact ⟨i * p, by omega, period W h i (i * p) hip⟩
/-! told by turns -/
def DA (m : Nat) (R : List Rw) : Prop := ∀ e x y z, Lw m e → Lw m x → Lw m y → Lw m z → doW R (e ++ e) = doW R e → doW R e = doW R (x ++ y ++ z) → doW R (e ++ y ++ e) = doW R e
def daB (E : List (List Nat)) : Bool := E.all fun x => E.all fun y => E.all fun z => !(decide (cmp (cmp (cmp x y) z) (cmp (cmp x y) z) = cmp (cmp x y) z)) || decide (cmp (cmp (cmp (cmp x y) z) y) (cmp (cmp x y) z) = cmp (cmp x y) z)
theorem da_iff {m : Nat} {R : List Rw} {E : List (List Nat)} (W : WfR m R) (El : Elems m R E) : daB E = true ↔ DA m R := by
  unfold daB
  simp only [List.all_eq_true, Bool.or_eq_true, Bool.not_eq_true', decide_eq_false_iff_not, decide_eq_true_eq]
  constructor
  · intro h e x y z he hx hy hz e1 e2
    have := h _ (El.all x hx) _ (El.all y hy) _ (El.all z hz)
    rw [← doW_app W, ← doW_app W, ← e2, ← doW_app W, ← doW_app W, ← doW_app W] at this
    rcases this with h | h
    · exact absurd e1 h
    · exact h
  · intro h x hx y hy z hz
    obtain ⟨x, lx, rfl⟩ := El.of x hx
    obtain ⟨y, ly, rfl⟩ := El.of y hy
    obtain ⟨z, lz, rfl⟩ := El.of z hz
    rw [← doW_app W, ← doW_app W, ← doW_app W, ← doW_app W, ← doW_app W]
    by_cases c : doW R (x ++ y ++ z ++ (x ++ y ++ z)) = doW R (x ++ y ++ z)
    · exact .inr (h _ x y z ((lx.app ly).app lz) lx ly lz c rfl)
    · exact .inl c
/-! by the words alone -/
def EqT (m : Nat) (T : List Nat → Bool) (u v : List Nat) : Prop := ∀ p q, Lw m p → Lw m q → T (p ++ u ++ q) = T (p ++ v ++ q)
def DAT (m : Nat) (T : List Nat → Bool) : Prop := ∀ e x y z, Lw m e → Lw m x → Lw m y → Lw m z → EqT m T (e ++ e) e → EqT m T e (x ++ y ++ z) → EqT m T (e ++ y ++ e) e
theorem eq_do {m : Nat} {R : List Rw} (W : WfR m R) (rc : Reach m R) (mn : Mn m R) {u v : List Nat} : doW R u = doW R v ↔ EqT m (tkR R 0) u v := by
  rw [doW_eq]
  constructor
  · intro h p q _ _
    unfold tkR
    rw [runR_app, runR_app, runR_app, runR_app, h _ (runR_lt' W W.pos)]
  · intro h s hs
    obtain ⟨p, lp, rfl⟩ := rc s hs
    refine mn _ _ (runR_lt' W hs) (runR_lt' W hs) fun q lq => ?_
    have := h p q lp lq
    unfold tkR at this
    rw [runR_app, runR_app, runR_app, runR_app] at this
    exact this
theorem da_lang {m : Nat} {R : List Rw} (W : WfR m R) (rc : Reach m R) (mn : Mn m R) : DA m R ↔ DAT m (tkR R 0) := by
  unfold DA DAT
  simp only [eq_do W rc mn]
theorem eqT_same {m : Nat} {T T' : List Nat → Bool} (h : ∀ w, Lw m w → T w = T' w) {u v : List Nat} (hu : Lw m u) (hv : Lw m v) : EqT m T u v ↔ EqT m T' u v := by
  constructor
  · intro k p q hp hq
    rw [← h _ ((hp.app hu).app hq), ← h _ ((hp.app hv).app hq)]
    exact k p q hp hq
  · intro k p q hp hq
    rw [h _ ((hp.app hu).app hq), h _ ((hp.app hv).app hq)]
    exact k p q hp hq
theorem daT_same1 {m : Nat} {T T' : List Nat → Bool} (h : ∀ w, Lw m w → T w = T' w) (k : DAT m T) : DAT m T' := fun e x y z he hx hy hz e1 e2 =>
  (eqT_same h ((he.app hy).app he) he).mp (k e x y z he hx hy hz ((eqT_same h (he.app he) he).mpr e1) ((eqT_same h he ((hx.app hy).app hz)).mpr e2))
theorem daT_same {m : Nat} {T T' : List Nat → Bool} (h : ∀ w, Lw m w → T w = T' w) : DAT m T ↔ DAT m T' := ⟨daT_same1 h, daT_same1 fun w hw => (h w hw).symm⟩
def Few (m : Nat) (T : List Nat → Bool) (n : Nat) : Prop := ∀ ws : List (List Nat), (∀ w ∈ ws, Lw m w) → ws.Pairwise (fun u v => ¬ EqT m T u v) → ws.length ≤ n
theorem few_same {m n : Nat} {T T' : List Nat → Bool} (h : ∀ w, Lw m w → T w = T' w) (k : Few m T n) : Few m T' n := fun ws l p =>
  k ws l (p.imp_of_mem fun hu hv c e => c ((eqT_same h (l _ hu) (l _ hv)).mp e))
theorem few_of {m n : Nat} {R : List Rw} {E : List (List Nat)} (W : WfR m R) (rc : Reach m R) (mn : Mn m R) (all : ∀ w, Lw m w → doW R w ∈ E) (hn : E.length ≤ n) : Few m (tkR R 0) n := fun ws l p => by
  have nd : (ws.map (doW R)).Nodup := by
    rw [List.nodup_iff_pairwise_ne, List.pairwise_map]
    exact p.imp fun c e => c ((eq_do W rc mn).mp e)
  have := nodup_sub_len _ E nd fun d hd => by
    obtain ⟨w, hw, rfl⟩ := List.mem_map.mp hd
    exact all w (l w hw)
  rw [List.length_map] at this
  omega
theorem few_do {m n : Nat} {R : List Rw} (W : WfR m R) (rc : Reach m R) (mn : Mn m R) (k : Few m (tkR R 0) n) {ws : List (List Nat)} (l : ∀ w ∈ ws, Lw m w) (nd : (ws.map (doW R)).Nodup) : ws.length ≤ n := by
  refine k ws l ?_
  rw [List.nodup_iff_pairwise_ne, List.pairwise_map] at nd
  exact nd.imp fun c e => c ((eq_do W rc mn).mpr e)
/-! a piece so often -/
theorem da_rest {m : Nat} {R : List Rw} {E : List (List Nat)} (W : WfR m R) (El : Elems m R E) (da : DA m R) {p : List Nat} (hp : Lw m p) (hn : p ≠ []) {e : List Nat} (he : Lw m e) (e1 : doW R (e ++ e) = doW R e) (e2 : doW R (e ++ p) = doW R e) : ∀ s : List Nat, (∀ a ∈ s, a ∈ p) → ∃ t, Lw m t ∧ doW R (e ++ s ++ t) = doW R e := by
  have gen : ∀ r : List Nat, (∀ a ∈ r.reverse, a ∈ p) → ∃ t, Lw m t ∧ doW R (e ++ r.reverse ++ t) = doW R e := by
    intro r
    induction r with
    | nil => exact fun _ => ⟨[], Lw.nil, by rw [List.reverse_nil, List.append_nil, List.append_nil]⟩
    | cons a r ih =>
      intro h
      rw [List.reverse_cons] at h ⊢
      obtain ⟨t, lt, ht⟩ := ih fun b hb => h b (List.mem_append_left _ hb)
      have ha := h a (List.mem_append_right _ List.mem_cons_self)
      have ls : Lw m r.reverse := fun j hj => hp j (h j (List.mem_append_left _ hj))
      generalize r.reverse = s at h ht ls ⊢
      obtain ⟨x, z, rfl⟩ := List.append_of_mem ha
      have lx : Lw m x := fun j hj => hp j (List.mem_append_left _ hj)
      have lz : Lw m z := fun j hj => hp j (List.mem_append_right _ (List.mem_cons_of_mem _ hj))
      have la : Lw m [a] := fun j hj => hp j (by rw [List.mem_singleton.mp hj]; exact ha)
      have ep : doW R (e ++ s ++ (t ++ (x ++ [a] ++ z) ++ s)) = doW R (e ++ s) := by
        have : e ++ s ++ (t ++ (x ++ [a] ++ z) ++ s) = (e ++ s ++ t) ++ (x ++ [a] ++ z) ++ s := by simp only [List.append_assoc]
        rw [this]
        refine doW_cong W ?_ rfl
        rw [doW_cong W ht (rfl : doW R (x ++ [a] ++ z) = _)]
        have e3 : x ++ [a] ++ z = x ++ a :: z := by simp
        rw [e3]
        exact e2
      have lg : Lw m (t ++ (x ++ [a] ++ z) ++ s) := (lt.app ((lx.app la).app lz)).app ls
      obtain ⟨k, k1, kk⟩ := idem W El lg
      have all : ∀ n, doW R (e ++ s ++ pw (t ++ (x ++ [a] ++ z) ++ s) n) = doW R (e ++ s) := by
        intro n
        induction n with
        | zero => rw [pw_zero, List.append_nil]
        | succ n ih =>
          rw [pw_succ, ← List.append_assoc, doW_cong W ep (rfl : doW R (pw _ n) = _)]
          exact ih
      have hk := all k
      have hda := da (pw (t ++ (x ++ [a] ++ z) ++ s) k) (t ++ x) [a] (z ++ s ++ pw (t ++ (x ++ [a] ++ z) ++ s) (k - 1)) (pw_lw lg k) (lt.app lx) la ((lz.app ls).app (pw_lw lg _)) (by rw [← pw_add]; exact kk) (by
        conv => lhs; rw [show k = (k - 1) + 1 by omega, pw_succ]
        simp only [List.append_assoc])
      have lgk := pw_lw lg k
      generalize pw (t ++ (x ++ [a] ++ z) ++ s) k = g at hk hda lgk
      refine ⟨g ++ t, ?_, ?_⟩
      · exact lgk.app lt
      · have q1 : doW R (e ++ s ++ [a] ++ g) = doW R (e ++ s) := by
          have a1 : doW R (e ++ s ++ ([a] ++ g)) = doW R (e ++ s ++ g ++ ([a] ++ g)) := doW_cong W hk.symm rfl
          have a2 : e ++ s ++ g ++ ([a] ++ g) = e ++ s ++ (g ++ [a] ++ g) := by simp only [List.append_assoc]
          rw [a2, doW_cong W (rfl : doW R (e ++ s) = _) hda] at a1
          rw [List.append_assoc, a1, hk]
        have a3 : e ++ (s ++ [a]) ++ (g ++ t) = e ++ s ++ [a] ++ g ++ t := by simp only [List.append_assoc]
        rw [a3, doW_cong W q1 (rfl : doW R t = _), ht]
  intro s hs
  have := gen s.reverse (by rw [List.reverse_reverse]; exact hs)
  rwa [List.reverse_reverse] at this
theorem forty {m : Nat} {R : List Rw} {E : List (List Nat)} (W : WfR m R) (El : Elems m R E) (h24 : E.length ≤ 24) (da : DA m R) {p : List Nat} (hp : Lw m p) (hn : p ≠ []) {s : List Nat} (hs : ∀ a ∈ s, a ∈ p) :
    doW R (pw p 40 ++ s ++ pw p 40) = doW R (pw p 40) := by
  obtain ⟨k, k1, kk⟩ := idem W El hp
  have le := pw_lw hp k
  -- p goes up in the still
  have ep : doW R (pw p k ++ p) = doW R (pw p k) := by
    have h := da (pw p k) [] p (pw p (k - 1)) le Lw.nil hp (pw_lw hp _) (by rw [← pw_add]; exact kk) (by
      conv => lhs; rw [show k = (k - 1) + 1 by omega, pw_succ]
      rfl)
    have e : pw p k ++ p ++ pw p k = pw p (k + k) ++ p := by
      rw [← pw_snoc, ← pw_add, ← pw_snoc]
      congr 1
      omega
    rw [e, doW_cong W kk (rfl : doW R p = _)] at h
    exact h
  have up : ∀ n, doW R (pw p (k + n)) = doW R (pw p k) := by
    intro n
    induction n with
    | zero => rfl
    | succ n ih => rw [← Nat.add_assoc, pw_snoc, doW_cong W ih (rfl : doW R p = _), ep]
  have e40 : doW R (pw p 40) = doW R (pw p k) := by
    obtain ⟨i, q, h1, h2, h3, h⟩ := pigeon El hp
    have hi : doW R (pw p i) = doW R (pw p k) := by
      rw [← period W h k i (Nat.le_refl i)]
      have hk : k ≤ k * q := Nat.le_mul_of_pos_right k (by omega)
      rw [show i + k * q = k + (i + (k * q - k)) by omega]
      exact up _
    rw [show 40 = i + (40 - i) by omega, pw_add, doW_cong W hi (rfl : doW R (pw p (40 - i)) = _), ← pw_add]
    exact up _
  obtain ⟨t, lt, ht⟩ := da_rest W El da hp hn le (by rw [← pw_add]; exact kk) ep s hs
  have ls : Lw m s := fun j hj => hp j (hs j hj)
  have := da (pw p k) (pw p k) s t le le ls lt (by rw [← pw_add]; exact kk) ht.symm
  rw [doW_cong W (doW_cong W e40 (rfl : doW R s = _)) e40, this, e40]
theorem forty_tk {m : Nat} {R : List Rw} {E : List (List Nat)} (W : WfR m R) (El : Elems m R E) (h24 : E.length ≤ 24) (da : DA m R) {p : List Nat} (hp : Lw m p) (hn : p ≠ []) {s : List Nat} (hs : ∀ a ∈ s, a ∈ p) (u v : List Nat) :
    tkR R 0 (u ++ pw p 40 ++ v) = tkR R 0 (u ++ pw p 40 ++ s ++ pw p 40 ++ v) := by
  have h := doW_eq.mp (forty W El h24 da hp hn hs) (runR R 0 u) (runR_lt' W W.pos)
  have e : u ++ pw p 40 ++ s ++ pw p 40 ++ v = u ++ (pw p 40 ++ s ++ pw p 40) ++ v := by simp only [List.append_assoc]
  rw [e]
  unfold tkR
  rw [runR_app, runR_app, runR_app, runR_app, h]
end SWL
set_option Elab.async false
set_option linter.all false
set_option maxRecDepth 100000
set_option maxHeartbeats 8000000
namespace SWL
open PySem PySem.Spec PyProof.Rows L2 LamX NdefX
/-! Machine.behind, Machine.takes; shows_strewn -/
abbrev sMBeh : Stmt := inClass sMachine 3
abbrev sMTak : Stmt := inClass sMachine 4
abbrev NBh : List Str := ["self", "word", "stand", "letter"]
abbrev NSh : List Str := ["machine", "thing", "letters", "word", "u", "x", "v", "is_up"]
def NotTup (K : PySem.W.Frag) (H : Hp) (x : V) : Prop := ∃ t : String, TyX K H x (.type t) ∧ kitB t "tuple" = some false
theorem NotTup.grows {K : PySem.W.Frag} {H H' : Hp} (g : Grows H H') {x : V} (h : NotTup K H x) : NotTup K H' x := let ⟨t, h1, h2⟩ := h; ⟨t, tyx_grows g h1, h2⟩
/-- the class, with the methods that go through words -/
structure McB (K : PySem.W.Frag) (mg : Str → Option Value) (C fB fT : Addr) : Prop where
  mB : Meth K C "behind" fB
  mT : Meth K C "takes" fT
def spBehind (C : Addr) : Sp := fun vs H Q _ => ∃ (x : Addr) (ls z : Str) (R : List Rw), vs = [.ref x, .str z, .int 0] ∧ MachAt H x C ls R ∧ WfR ls.length R ∧ R.length ≤ 60 ∧ okWord ls z 20000 = true ∧ ls.cps.toList.Nodup ∧ ls.length ≤ 1000 ∧ ∀ H', Grows H H' → Q (nV (runR R 0 (wi ls.cps.toList z))) H'
def spTakes (C : Addr) : Sp := fun vs H Q _ => ∃ (x : Addr) (ls z : Str) (R : List Rw), vs = [.ref x, .str z] ∧ MachAt H x C ls R ∧ WfR ls.length R ∧ R.length ≤ 60 ∧ okWord ls z 20000 = true ∧ ls.cps.toList.Nodup ∧ ls.length ≤ 1000 ∧ ∀ H', Grows H H' → Q (.bl (tkR R 0 (wi ls.cps.toList z))) H'
/-- nothing, a text or a number -/
def Sc (v : V) : Prop := v = .non ∨ (∃ z : Str, v = .str z ∧ z.length ≤ 5000) ∨ ∃ i, v = .int i
def okWd (ls : Str) : V → Bool
  | .str z => okWord ls z 4000
  | _ => false
def strOf : V → Str
  | .str z => z
  | _ => ""
def udL : List V := [.str "upward", .str "downward"]
def swS (ls : Str) (R : List Rw) (up : Bool) (u x v : Str) : Bool := decide (tkR R 0 (wi ls.cps.toList (u ++ v)) = up) && decide (tkR R 0 (wi ls.cps.toList (u ++ x ++ v)) ≠ up)
def swB (ls : Str) (R : List Rw) (h x1 x2 x3 : V) : Bool := inV h udL && ((okWd ls x1 && (okWd ls x2 && okWd ls x3)) && (decide ((strOf x2).length = 1) && swS ls R (decide (h = .str "upward")) (strOf x1) (strOf x2) (strOf x3)))
def spShows (K : PySem.W.Frag) (C : Addr) : Sp := fun vs H Q _ => ∃ (x : Addr) (ls : Str) (R : List Rw) (tv : V), vs = [.ref x, tv] ∧ MachAt H x C ls R ∧ WfR ls.length R ∧ R.length ≤ 60 ∧ ls.cps.toList.Nodup ∧ ls.length ≤ 1000 ∧
  ((NotTup K H tv ∧ ∀ H', Grows H H' → Q (.bl false) H') ∨ (∃ p ys, tv = .ref p ∧ H p = some (.tup ys) ∧ ys.length ≠ 4 ∧ ∀ H', Grows H H' → Q (.bl false) H') ∨
    ∃ p h x1 x2 x3, tv = .ref p ∧ H p = some (.tup [h, x1, x2, x3]) ∧ Sc h ∧ Sc x1 ∧ Sc x2 ∧ Sc x3 ∧ ∀ H', Grows H H' → Q (.bl (swB ls R h x1 x2 x3)) H')
theorem ofl_okWord {ls z : Str} {m : Int} (h : okWord ls z m = true) : OfL ls.cps.toList z := fun c hc => by
  unfold okWord at h
  rw [Bool.and_eq_true, List.all_eq_true] at h
  exact of_decide_eq_true (h.2 c hc)
section
variable {P : Program} {w : World} {K : PySem.W.Frag} {mg : Str → Option Value} {base : Heap}
theorem scBehind : FnScope NBh ["self", "word", "stand"] (defScope sMBeh) := ⟨rfl, rfl, rfl, by decide +kernel, rfl, by decide +kernel, by decide +kernel⟩
theorem ok_behind {f fW fN fl fr C CW : Addr} {fd fdW fdN : FuncData} {kws : List (Str × V)} (F : FunD K "behind" "Machine.behind" (defArgs sMBeh) (defBody sMBeh) (defScope sMBeh) [] kws f fd) (B : Blt mg) (T : McC K mg C fl fr)
    (GW : FnOk P w K mg base (L2.CX P w) 3 fW fdW ["letters", "thing", "most"] (spNeedW K CW)) (DW : DefW mg K "need_word" fW fdW ["letters", "thing", "most"])
    (GN : FnOk P w K mg base CX0 1 fN fdN ["thing", "least", "most"] (spIsNum K)) (DN : Def mg K "is_number" fN fdN ["thing", "least", "most"]) : FnOk P w K mg base CX0 4 f fd ["self", "word", "stand"] (spBehind C) := by
  obtain ⟨dsW, vdW, bdW⟩ := DW.b
  refine F.ok (CX := CX0) scBehind (fun vs H Q E h => ?_) (fun cdv A outer s H vs Q E hr h => ⟨_,
    PSs.nox (pss_cons (ps_expr (pe_call GW (hr.mono (by decide)) (by rfl) DW.g DW.k bdW vdW (passE0 rfl rfl) (pa_cons (pe_fld (pv 0) rfl) (pa_cons (pv 1) pa_nil))))
      (pss_cons (ps_if (pt_not (pt_truth (pe_call GN (hr.mono (by decide)) (by rfl) DN.g DN.k DN.b .nil pass0 (pa_cons (pv 2) (pa_cons pe_int (pa_cons (pe_op op_sub (pe_callB call_len_seq (by rfl) B.len PySem.boot_len (pa_cons (pe_fld (pv 0) rfl) pa_nil)) pe_int) pa_nil)))) (by intro _; rfl))) pss_no pss_nil)
      (pss_cons (ps_for PassesOwn.never rfl (pi_str (pv 1)) (pg_name (i := 3) scBehind.nd rfl (Or.inl rfl)) (pss_one (ps_set (i := 2) scBehind.nd rfl (Or.inl rfl) (pe_ix ix_tup (pe_ix ix_tup (pe_ix ix_list (pe_fld (pv 0) rfl) (pv 2) (fun _ _ => rfl)) pe_int (fun _ _ => rfl)) (pe_m1 PySem.F.slot_str_index PySem.F.type_str_index mt_index (pe_fld (pv 0) rfl) (pv 3)) (fun _ _ => rfl)))))
      (pss_one (ps_ret (pv 2)))))), ?_⟩)
  · obtain ⟨x, ls, z, R, rfl, _⟩ := h
    rfl
  · obtain ⟨x, ls, z, R, rfl, M, W, h60, hz, nd, hls, q⟩ := h
    have sz : sizeLine = 16777216 := sizeLine_eq
    have lsl : ls.cps.toList.length = ls.length := cut_len ls
    have ho := ofl_okWord hz
    have zl : z.length ≤ 20000 := by
      unfold okWord at hz
      rw [Bool.and_eq_true, decide_eq_true_eq] at hz
      omega
    obtain ⟨dx, L, ws, h1, h2, h3⟩ := id M.obj
    refine ⟨_, rfl, x, C, dx, _, _, rfl, h1, T.cl, T.nL, mcf_let ls L, _, rfl, ls, _, _, rfl, .inl ⟨z, rfl, by omega, fun H1 g1 => ⟨fun _ => ?_, fun c => by rw [hz] at c; cases c⟩⟩⟩
    have k1 := g1 _ _ h1
    have k2 := g1 _ _ h2
    have k3 := h3.grows g1
    have wl := k3.len
    have wp := W.pos
    refine ⟨_, rfl, _, rfl, x, C, dx, _, _, rfl, k1, T.cl, T.nR, mcf_row ls L, L, ws, rfl, .inl (.inl (.inl k2)), _, _, rfl, rfl, .int 0, 0, _, rfl, .inl ⟨0, rfl, ?_⟩⟩
    rw [decide_eq_true (show (0 : Int) ≤ 0 ∧ (0 : Int) ≤ (ws.length : Int) - 1 by omega)]
    refine ⟨true, rfl, if_neg_of (by decide) ?_⟩
    refine ⟨_, rfl, z, rfl, for_it walk_str (fun j σ H' => H' = H1 ∧ ∃ v3 : Option V, σ = [some (.ref x), some (.str z), some (nV (runR R 0 ((wi ls.cps.toList z).take j))), v3]) ⟨rfl, _, rfl⟩ (fun _ _ _ _ _ => trivial) ?_ ?_⟩
    · rintro j y σ H2 H3 hj ⟨rfl, v3, rfl⟩ ⟨rfl, ch, hch, rfl⟩
      have hch : z.cps.toList[j]? = some ch := by rw [Array.getElem?_toList]; exact hch
      have hc := ho ch (List.mem_of_getElem? hch)
      have hw : (wi ls.cps.toList z)[j]? = some (ls.cps.toList.idxOf ch) := by unfold wi; rw [List.getElem?_map, hch]; rfl
      have hlt := runR_lt W (w := (wi ls.cps.toList z).take j) wp fun i hi => by rw [← lsl]; exact wi_lt ho i (List.mem_of_mem_take hi)
      have hrun : runR R 0 ((wi ls.cps.toList z).take (j + 1)) = toR R (runR R 0 ((wi ls.cps.toList z).take j)) (ls.cps.toList.idxOf ch) := by
        rw [take_snoc hw, runR_app]
        rfl
      rw [hrun]
      generalize runR R 0 ((wi ls.cps.toList z).take j) = t at hlt ⊢
      obtain ⟨r, hr1, lr⟩ := W.row hlt
      have e1 : ws[t]? = some ws[t] := List.getElem?_eq_getElem (by omega)
      obtain ⟨a, u, ea, ha, hu⟩ := k3.at_ t _ r e1 hr1
      rw [ea] at e1
      have il := List.idxOf_lt_length_of_mem hc
      rw [lsl] at il
      have e2 := (W.to hlt il).2 r hr1
      refine ⟨_, rfl, x, C, dx, _, _, rfl, k1, T.cl, T.nR, mcf_row ls L, _, rfl, L, ws, _, .ref a, rfl, rfl, .inl (.inl k2), atI_nat (j := t) e1, a, _, _, _, rfl, rfl, .inl (.inl ha), atI_nat (j := 1) rfl, ?_⟩
      refine ⟨_, rfl, x, C, dx, _, _, rfl, k1, T.cl, T.nL, mcf_let ls L, ⟨ls, rfl⟩, _, rfl, ls, ch, rfl, rfl, hc, fun i hi hn => ?_⟩
      have ei : i = ls.cps.toList.idxOf ch := by
        have h1 := List.getElem?_eq_some_iff.mp hi
        rw [← h1.2]
        exact (nd.idxOf_getElem i h1.1).symm
      subst ei
      exact ⟨u, _, _, _, rfl, rfl, .inl (.inl hu), atI_nat (j := ls.cps.toList.idxOf ch) (by rw [List.getElem?_map, e2]; rfl), rfl, _, rfl⟩
    · rintro σ H2 ⟨rfl, v3, rfl⟩
      refine ⟨_, rfl, ?_⟩
      have e : (wi ls.cps.toList z).take z.cps.size = wi ls.cps.toList z := by
        refine List.take_of_length_le ?_
        unfold wi
        rw [List.length_map]
        exact Nat.le_of_eq Array.length_toList
      rw [e]
      exact q _ g1
theorem scTakes : FnScope ["self", "word"] ["self", "word"] (defScope sMTak) := ⟨rfl, rfl, rfl, by decide +kernel, rfl, by decide +kernel, by decide +kernel⟩
theorem ok_takes {f fB fl fr C : Addr} {fd fdB : FuncData} {ds : List Value} (F : L2.Fun K "takes" "Machine.takes" sMTak f fd) (T : McC K mg C fl fr) (mB : Meth K C "behind" fB)
    (GB : FnOk P w K mg base CX0 4 fB fdB ["self", "word", "stand"] (spBehind C)) (vdB : Vals [V.int 0] ds) (bdB : Binds K fdB ["self", "word", "stand"] ds) : FnOk P w K mg base CX0 5 f fd ["self", "word"] (spTakes C) := by
  refine F.ok scTakes (fun vs H Q E h => ?_) (fun cdv A outer s H vs Q E hr h => ⟨_,
    (pss_one (ps_ret (pe_ix ix_tup (pe_ix ix_list (pe_fld (pv 0) rfl) (pe_meth (pv 0) T.cl mB GB (hr.mono (by decide)) bdB vdB pass0 (pa_cons (pv 1) pa_nil)) (fun _ _ => rfl)) pe_int (fun _ _ => rfl)))), ?_⟩)
  · obtain ⟨x, ls, z, R, rfl, _⟩ := h
    rfl
  · obtain ⟨x, ls, z, R, rfl, M, W, h60, hz, nd, hls, q⟩ := h
    obtain ⟨dx, L, ws, h1, h2, h3⟩ := id M.obj
    have lsl : ls.cps.toList.length = ls.length := cut_len ls
    have hlt := runR_lt W (w := wi ls.cps.toList z) W.pos fun i hi => by rw [← lsl]; exact wi_lt (ofl_okWord hz) i hi
    obtain ⟨r, hr1, lr⟩ := W.row hlt
    have wl := h3.len
    have e1 : ws[runR R 0 (wi ls.cps.toList z)]? = some ws[runR R 0 (wi ls.cps.toList z)] := List.getElem?_eq_getElem (by omega)
    obtain ⟨a, u, ea, ha, hu⟩ := h3.at_ _ _ r e1 hr1
    rw [ea] at e1
    unfold tkR at q
    rw [acR_of hr1] at q
    refine ⟨_, rfl, x, C, dx, _, _, rfl, h1, T.cl, T.nR, mcf_row ls L, _, rfl, x, dx, _, rfl, h1, mcf_no ls L (by decide +kernel) (by decide +kernel), _, rfl, x, ls, z, R, rfl, M, W, h60, hz, nd, hls, fun H1 g1 => ?_⟩
    exact ⟨L, ws, _, .ref a, rfl, rfl, .inl (.inl (g1 _ _ h2)), atI_nat (j := runR R 0 (wi ls.cps.toList z)) e1, a, _, _, _, rfl, rfl, .inl (.inl (g1 _ _ ha)), atI_nat (j := 0) rfl, q H1 g1⟩
end
end SWL
set_option Elab.async false
set_option linter.all false
set_option maxRecDepth 100000
set_option maxHeartbeats 8000000
namespace SWL
open PySem PySem.Spec PyProof.Rows L2 LamX
/-! letters and words drawn -/
theorem cut_to (z : Str) (i : Nat) : (cutS z none (some ((i : Nat) : Int))).cps.toList = z.cps.toList.take i := by
  have h1 : HT.sIx z.length 0 none = 0 := rfl
  have h2 : HT.sIx z.length z.length (some ((i : Nat) : Int)) = min i z.length := HT.sIx_nat _ _ i
  unfold cutS
  rw [h1, h2]
  show (z.cps.toList.drop 0).take (min i z.length - 0) = _
  rw [List.drop_zero, Nat.sub_zero]
  by_cases h : i ≤ z.length
  · rw [Nat.min_eq_left h]
  · have e : z.cps.toList.length = z.length := cut_len z
    rw [Nat.min_eq_right (by omega), List.take_of_length_le (by omega), List.take_of_length_le (by omega)]
structure Off (H : Hp) (a g : Addr) : Prop where
  st : ∃ ks, H a = some (.dK ks)
  gr : ∃ xs, H g = some (.lst xs)
theorem SAt.off {H : Hp} {a g c : Addr} {cs : List Int} {n : Nat} (s : SAt H a g c cs n) : Off H a g := by
  obtain ⟨gs, r, t, h1, h2, _⟩ := s.ex
  exact ⟨⟨_, h1⟩, ⟨_, h2⟩⟩
def lettersL : List Str := ["ab", "ab", "a", "bz", "abc"]
def lotOk (ls : Str) : Bool := okLetters ls && decide (ls.length ≤ 3) && decide (0 < ls.length) && ls.cps.toList.all (fun c => decide (c < 128))
structure Lot (ls : Str) : Prop where
  ok : okLetters ls = true
  len : ls.length ≤ 3
  pos : 0 < ls.length
  small : ∀ c ∈ ls.cps.toList, c < 128
theorem lots_ok : lettersL.all lotOk = true := by decide +kernel
theorem lot_of {ls : Str} (h : ls ∈ lettersL) : Lot ls := by
  have e := List.all_eq_true.mp lots_ok ls h
  unfold lotOk at e
  simp only [Bool.and_eq_true, decide_eq_true_eq, List.all_eq_true] at e
  obtain ⟨⟨⟨e1, e2⟩, e3⟩, e4⟩ := e
  exact ⟨e1, e2, e3, e4⟩
def spPickS : Sp := fun vs H Q _ => ∃ (a g c : Addr) (cs : List Int) (n : Nat) (ls : Str), vs = [.ref a, .str ls] ∧ SAt H a g c cs n ∧ n ≤ 1000000 ∧ 0 < ls.length ∧ ls.length ≤ 1000000 ∧ ∀ H' d, d ∈ ls.cps.toList → SAt H' a g c cs (n + 1) → But H H' a g → Q (.str (sg d)) H'
def spSomeL : Sp := fun vs H Q _ => ∃ (a g c : Addr) (cs : List Int) (n : Nat), vs = [.ref a] ∧ SAt H a g c cs n ∧ n ≤ 1000000 ∧ ∀ H' z, z ∈ lettersL → SAt H' a g c cs (n + 1) → But H H' a g → Q (.str z) H'
/-- a word of these letters -/
def Of (ls z : Str) : Prop := ∀ d ∈ z.cps.toList, d ∈ ls.cps.toList
def spSomeW : Sp := fun vs H Q _ => ∃ (a g c : Addr) (cs : List Int) (n m : Nat) (ls : Str), vs = [.ref a, .str ls, .int (m : Nat)] ∧ 0 < ls.length ∧ ls.length ≤ 1000 ∧ m ≤ 20 ∧ SAt H a g c cs n ∧ n + 50 ≤ 1000000 ∧ ∀ H' z, Of ls z → z.length ≤ m → SAt H' a g c cs (n + 50) → But H H' a g → Q (.str z) H'
/-- so many signs drawn -/
def PickP (H1 : Hp) (a g c : Addr) (cs : List Int) (n : Nat) (ls : Str) (D : Addr) (j : Nat) (H' : Hp) : Prop := SAt H' a g c cs (n + j) ∧ But H1 H' a g ∧ ∃ ds : List Nat, ds.length = j ∧ (∀ d ∈ ds, d ∈ ls.cps.toList) ∧ H' D = some (.lst (ds.map fun d => V.str (sg d)))
theorem pick0 {H1 : Hp} {a g c D : Addr} {cs : List Int} {n : Nat} {ls : Str} (s : SAt H1 a g c cs n) (nD : H1 D = none) : PickP H1 a g c cs n ls D 0 (upd H1 D (.lst [])) :=
  ⟨s.grows (Grows.new nD), But.of (Grows.new nD), [], rfl, (fun d hd => by cases hd), upd_same⟩
theorem pickS {H1 H2 : Hp} {a g c D : Addr} {cs : List Int} {n j js jt : Nat} {ls : Str} {σ : L2.St} (s1 : SAt H1 a g c cs n) (nD : H1 D = none) (p : PickP H1 a g c cs n ls D j H2) (hs : σ[js]? = some (some (.ref a))) (ht : σ[jt]? = some (some (.str ls))) (hp : 0 < ls.length) (hl : ls.length ≤ 1000) (hn : n + j ≤ 1000000) (hj : j ≤ 1000) :
    tCall spPickS [] E0 (tCons (tVar js) (tCons (tVar jt) tNil)) σ H2 fun y H4 => ∃ acc, H4 D = some (.lst acc) ∧ acc.length < sizeLine ∧ PickP H1 a g c cs n ls D (j + 1) (upd H4 D (.lst (acc ++ [y]))) := by
  have sz : sizeLine = 16777216 := sizeLine_eq
  obtain ⟨s2, b2, ds, hdl, hds, hD⟩ := p
  have dG : D ≠ g := by
    obtain ⟨xs, hx⟩ := s1.off.gr
    exact (ne_of_none hx nD).symm
  have dA : D ≠ a := by
    obtain ⟨xs, hx⟩ := s1.off.st
    exact (ne_of_none hx nD).symm
  have dC : D ≠ c := by
    obtain ⟨_, _, _, _, _, h3, _⟩ := s1.ex
    exact (ne_of_none h3 nD).symm
  refine ⟨_, hs, _, ht, a, g, c, cs, n + j, ls, rfl, s2, hn, hp, by omega, fun H4 d hd s4 b4 => ?_⟩
  have hD4 := b4 D _ hD dA dG
  refine ⟨_, hD4, by rw [List.length_map]; omega, ?_, ?_, ds ++ [d], by rw [List.length_append, hdl]; rfl, fun e he => ?_, ?_⟩
  · obtain ⟨gs, r, t, h1, h2, h3, h4⟩ := s4.ex
    exact ⟨gs, r, t, by rw [upd_ne dA.symm]; exact h1, by rw [upd_ne dG.symm]; exact h2, by rw [upd_ne dC.symm]; exact h3, h4⟩
  · intro b o e n1 n2
    rw [upd_ne (ne_of_none e nD)]
    exact b4 b o (b2 b o e n1 n2) n1 n2
  · rcases List.mem_append.mp he with h | h
    · exact hds e h
    · rw [List.mem_singleton.mp h]
      exact hd
  · rw [upd_same, List.map_append]
    rfl
theorem join_sg (ds : List Nat) : (Txt.join "" (ds.map sg)).cps.toList = ds := by
  rw [TL.join_eq]
  refine (TL.tl_join "" (ds.map sg)).trans ?_
  have e2 : ∀ l : List Nat, TL.joinL [] ((l.map sg).map TL.tl) = l := by
    intro l
    induction l with
    | nil => rfl
    | cons c l ih =>
      cases l with
      | nil => rfl
      | cons d l =>
        show [c] ++ ([] ++ TL.joinL [] (((d :: l).map sg).map TL.tl)) = _
        rw [ih]
        rfl
  exact e2 ds
theorem sum_sg (ds : List Nat) : ((ds.map sg).map (·.length)).sum = ds.length := by
  induction ds with
  | nil => rfl
  | cons d ds ih =>
    simp only [List.map_cons, List.sum_cons, List.length_cons] at ih ⊢
    have : (sg d).length = 1 := rfl
    omega
/-- what is joined of them -/
theorem pick_join {H' : Hp} {D : Addr} {ls : Str} {ds : List Nat} (hl : ds.length ≤ 1000) (hd : ∀ d ∈ ds, d ∈ ls.cps.toList) (hD : H' D = some (.lst (ds.map fun d => V.str (sg d)))) :
    H' D = some (.lst ((ds.map sg).map V.str)) ∧ ((ds.map sg).map (·.length)).sum + (ds.map sg).length * ("" : Str).length ≤ 16777216 ∧ Of ls (Txt.join "" (ds.map sg)) ∧ (Txt.join "" (ds.map sg)).length = ds.length := by
  have e0 : ("" : Str).length = 0 := rfl
  have ej := join_sg ds
  refine ⟨hD.trans ?_, ?_, ?_, ?_⟩
  · rw [List.map_map]
    rfl
  · rw [sum_sg, e0, Nat.mul_zero]
    omega
  · intro d h
    rw [ej] at h
    exact hd d h
  · rw [← cut_len, ej]
section
variable {P : Program} {w : World} {K : PySem.W.Frag} {mg : Str → Option Value} {base : Heap}
theorem ok_pickS {f f1 : Addr} {fd fd1 : FuncData} (F : L2.Fun K "_law_pick" "_law_pick" sPick f fd) (B : Blt mg) (G : FnOk P w K mg base CX0 2 f1 fd1 ["state", "room"] spDraw) (D : Def mg K "_law_draw" f1 fd1 ["state", "room"]) : FnOk P w K mg base CX0 3 f fd ["state", "some"] spPickS := by
  refine F.ok scPick (fun vs H Q E h => ?_) (fun cdv A outer s H vs Q E hr h => ⟨_,
    pss_one (ps_ret (pe_ix ix_str (pv 1) (pe_call G hr (by rfl) D.g D.k D.b .nil pass0 (pa_cons (pv 0) (pa_cons (pe_callB call_len_str (by rfl) B.len PySem.boot_len (pa_cons (pv 1) pa_nil)) pa_nil))) (fun _ _ => rfl))), ?_⟩)
  · obtain ⟨a, g, c, cs, n, ls, rfl, _⟩ := h
    rfl
  · obtain ⟨a, g, c, cs, n, ls, rfl, hs, hn, hp, hl, q⟩ := h
    have sz : sizeLine = 16777216 := sizeLine_eq
    refine ⟨_, rfl, _, rfl, _, rfl, ls, rfl, by omega, a, g, c, cs, n, _, rfl, hs, hn, by omega, by omega, fun H' i hi hlt s' hb => ?_⟩
    obtain ⟨k, rfl⟩ : ∃ k : Nat, i = k := ⟨i.toNat, by omega⟩
    have hk : k < ls.cps.toList.length := by rw [cut_len]; omega
    exact ⟨ls, k, ls.cps.toList[k], rfl, rfl, by omega, atI_nat (List.getElem?_eq_getElem hk), q H' _ (List.getElem_mem hk) s' hb⟩
theorem scSomeL : FnScope ["state"] ["state"] (defScope sSomeL) := ⟨rfl, rfl, rfl, by decide +kernel, rfl, by decide +kernel, by decide +kernel⟩
theorem ok_someL {f f1 : Addr} {fd fd1 : FuncData} (F : L2.Fun K "_law_some_letters" "_law_some_letters" sSomeL f fd) (G : FnOk P w K mg base CX0 3 f1 fd1 ["state", "some"] spPick) (D : Def mg K "_law_pick" f1 fd1 ["state", "some"]) : FnOk P w K mg base CX0 4 f fd ["state"] spSomeL := by
  refine F.ok scSomeL (fun vs H Q E h => ?_) (fun cdv A outer s H vs Q E hr h => ⟨_,
    pss_one (ps_ret (pe_call G hr (by rfl) D.g D.k D.b .nil pass0 (pa_cons (pv 0) (pa_cons (pe_lst (pa_cons pe_str (pa_cons pe_str (pa_cons pe_str (pa_cons pe_str (pa_cons pe_str pa_nil)))))) pa_nil)))), ?_⟩)
  · obtain ⟨a, g, c, cs, n, rfl, _⟩ := h
    rfl
  · obtain ⟨a, g, c, cs, n, rfl, hs, hn, q⟩ := h
    refine ⟨_, rfl, by show 5 ≤ sizeLine; decide, fun p np => ?_⟩
    obtain ⟨gs, r, t, h1, h2, h3, h4⟩ := hs.ex
    refine ⟨a, g, c, p, cs, n, lettersL.map V.str, rfl, hs.grows (Grows.new np), hn, upd_same, (ne_of_none h2 np).symm, by decide, by decide, fun H' x hx s' hb => ?_⟩
    obtain ⟨z, hz, rfl⟩ := List.mem_map.mp hx
    exact q H' z hz s' ((But.of (Grows.new np)).trans hb)
theorem scSomeW : FnScope ["state", "letters", "most", "way", "size", "piece", "at"] ["state", "letters", "most"] (defScope sSomeW) := ⟨rfl, rfl, rfl, by decide +kernel, rfl, by decide +kernel, by decide +kernel⟩
theorem ok_someW {f f1 f2 : Addr} {fd fd1 fd2 : FuncData} (F : L2.Fun K "_law_some_word" "_law_some_word" sSomeW f fd) (B : Blt mg)
    (G1 : FnOk P w K mg base CX0 2 f1 fd1 ["state", "room"] spDraw) (D1 : Def mg K "_law_draw" f1 fd1 ["state", "room"])
    (G2 : FnOk P w K mg base CX0 3 f2 fd2 ["state", "some"] spPickS) (D2 : Def mg K "_law_pick" f2 fd2 ["state", "some"]) : FnOk P w K mg base CX0 4 f fd ["state", "letters", "most"] spSomeW := by
  refine F.ok scSomeW (fun vs H Q E h => ?_) (fun cdv A outer s H vs Q E hr h => ⟨_,
    pss_cons (ps_par (i := 3) (j := 4) rfl scSomeW.nd rfl rfl (by decide) rfl rfl (pa_cons (pe_call G1 (hr.mono (by decide)) (by rfl) D1.g D1.k D1.b .nil pass0 (pa_cons (pv 0) (pa_cons pe_int pa_nil))) (pa_cons (pe_call G1 (hr.mono (by decide)) (by rfl) D1.g D1.k D1.b .nil pass0 (pa_cons (pv 0) (pa_cons (pe_op op_add (pv 2) pe_int) pa_nil))) pa_nil)) rfl)
    (pss_cons (ps_if (pw_and (pt_cmpR op_eq (pv 3) pe_int (nomark _)) (pw_and1 (pt_cmpR op_gt (pv 4) pe_int (nomark _)))).pt
      (pss_cons (ps_set (i := 5) scSomeW.nd rfl (Or.inl rfl) (pe_join pe_str (pe_lc (own := [("at", 6)]) (g := gName 6) (tt := tYes) (te := tCall spPickS [] E0 (tCons (tVar 0) (tCons (tVar 1) tNil))) rfl scSomeW.nd (pi_range1 (by rfl) B.range (pa_cons (pe_op op_add pe_int (pe_call G1 (hr.mono (by decide)) (by rfl) D1.g D1.k D1.b .nil pass0 (pa_cons (pv 0) (pa_cons pe_int pa_nil)))) pa_nil)) (blkOk_by (N := ["state", "letters", "most", "way", "size", "piece", "at"]) (sc := defScope sSomeW) (by decide +kernel))
        (fun _ _ _ _ _ => pg_name (i := 6) scSomeW.nd rfl (Or.inl rfl)) (fun _ _ _ _ _ => pts_nil) (fun _ _ _ _ _ => pe_call G2 (hr.mono (by decide)) (by rfl) D2.g D2.k D2.b .nil pass0 (pa_cons (pv 0) (pa_cons (pv 1) pa_nil))))))
      (pss_one (ps_ret (pe_slice sl_str (pe_op op_mulS (pv 5) (pv 4)) po_none (po_some (pv 4)))))) pss_nil)
    (pss_one (ps_ret (pe_join pe_str (pe_lc (own := [("at", 6)]) (g := gName 6) (tt := tYes) (te := tCall spPickS [] E0 (tCons (tVar 0) (tCons (tVar 1) tNil))) rfl scSomeW.nd (pi_range1 (by rfl) B.range (pa_cons (pv 4) pa_nil)) (blkOk_by (N := ["state", "letters", "most", "way", "size", "piece", "at"]) (sc := defScope sSomeW) (by decide +kernel))
        (fun _ _ _ _ _ => pg_name (i := 6) scSomeW.nd rfl (Or.inl rfl)) (fun _ _ _ _ _ => pts_nil) (fun _ _ _ _ _ => pe_call G2 (hr.mono (by decide)) (by rfl) D2.g D2.k D2.b .nil pass0 (pa_cons (pv 0) (pa_cons (pv 1) pa_nil)))))))), ?_⟩)
  · obtain ⟨a, g, c, cs, n, m, ls, rfl, _⟩ := h
    rfl
  · obtain ⟨a, g, c, cs, n, m, ls, rfl, hp, hl, hm, hs, hn, q⟩ := h
    have sz : sizeLine = 16777216 := sizeLine_eq
    refine ⟨_, rfl, a, g, c, cs, n, 4, rfl, hs, by omega, by decide, by decide, fun H1 way w0 w1 s1 b1 => ?_⟩
    refine ⟨_, rfl, _, rfl, _, _, rfl, rfl, a, g, c, cs, n + 1, _, rfl, s1, by omega, by omega, by omega, fun H2 size z0 z1 s2 b2 => ⟨_, _, rfl, ?_⟩⟩
    obtain ⟨size, rfl⟩ : ∃ k : Nat, size = k := ⟨size.toNat, by omega⟩
    have b12 := b1.trans b2
    have plain : ∀ H3, SAt H3 a g c cs (n + 2) → But H H3 a g → True := fun _ _ _ => trivial
    refine ⟨_, rfl, rfl, _, rfl, ?_⟩
    by_cases hw : way = 0
    · refine if_pos_of (decide_eq_true (congrArg V.int hw)) ⟨_, rfl, _, _, rfl, rfl, _, rfl, ?_⟩
      by_cases hz : (0 : Int) < (size : Nat)
      · refine if_pos_of (decide_eq_true hz) ?_
        refine ⟨⟨_, rfl⟩, _, rfl, a, g, c, cs, n + 2, 3, rfl, s2, by omega, by decide, by decide, fun H3 k k0 k1 s3 b3 => ⟨_, _, rfl, rfl, _, rfl, by omega, by omega, fun D nD => ?_⟩⟩
        refine lc_it walk_range (PickP H3 a g c cs (n + 3) ls D) (pick0 s3 nD) (fun _ _ _ _ => trivial) ?_ ?_
        · rintro j x H4 H5 hj p ⟨rfl, rfl⟩
          refine ⟨rfl, ?_⟩
          exact pickS (js := 0) (jt := 1) s3 nD p rfl rfl hp hl (by omega) (by omega)
        · rintro H4 ⟨s4, b4, ds, hdl, hds, hD⟩
          obtain ⟨e1, e2, hz, hzl⟩ := pick_join (by omega) hds hD
          refine ⟨"", D, ds.map sg, rfl, rfl, .inl (.inl (.inl e1)), e2, ?_⟩
          generalize Txt.join "" (ds.map sg) = z at hz hzl ⊢
          have ml : z.length * size ≤ 3 * 20 := Nat.mul_le_mul (by omega) (by omega)
          have mc := mul_cps z size
          have mln : (Txt.mul z size).length = size * z.length := by
            rw [← cut_len, mc, List.length_flatten, List.map_replicate, List.sum_replicate_nat, cut_len]
          have mz : size * z.length ≤ 60 := by rw [Nat.mul_comm]; exact ml
          have ct := cut_to (Txt.mul z size) size
          refine ⟨_, rfl, _, rfl, z, size, rfl, rfl, by omega, by omega, _, rfl, _, rfl, _, rfl, by omega, ?_⟩
          refine q H4 _ (fun d hd => ?_) ?_ (s4.mono (by omega)) ((b12.trans b3).trans b4)
          · rw [ct, mc] at hd
            obtain ⟨l, hl1, hl2⟩ := List.mem_flatten.mp (List.mem_of_mem_take hd)
            rw [(List.mem_replicate.mp hl1).2] at hl2
            exact hz d hl2
          · rw [← cut_len, ct, List.length_take]
            omega
      · refine if_neg_of (by rw [decide_eq_false hz]; decide) ?_
        refine ⟨⟨_, rfl⟩, _, rfl, _, rfl, by omega, by omega, fun D nD => ?_⟩
        refine lc_it walk_range (PickP H2 a g c cs (n + 2) ls D) (pick0 s2 nD) (fun _ _ _ _ => trivial) ?_ ?_
        · rintro j x H3 H4 hj p ⟨rfl, rfl⟩
          refine ⟨rfl, ?_⟩
          exact pickS (js := 0) (jt := 1) s2 nD p rfl rfl hp hl (by omega) (by omega)
        · rintro H3 ⟨s3, b3, ds, hdl, hds, hD⟩
          obtain ⟨e1, e2, hz, hzl⟩ := pick_join (by omega) hds hD
          exact ⟨"", D, ds.map sg, rfl, rfl, .inl (.inl (.inl e1)), e2, q H3 _ hz (by omega) (s3.mono (by omega)) (b12.trans b3)⟩
    · refine if_neg_of (by rw [decide_eq_false (fun z => hw (V.int.inj z))]; decide) ?_
      refine ⟨⟨_, rfl⟩, _, rfl, _, rfl, by omega, by omega, fun D nD => ?_⟩
      refine lc_it walk_range (PickP H2 a g c cs (n + 2) ls D) (pick0 s2 nD) (fun _ _ _ _ => trivial) ?_ ?_
      · rintro j x H3 H4 hj p ⟨rfl, rfl⟩
        refine ⟨rfl, ?_⟩
        exact pickS (js := 0) (jt := 1) s2 nD p rfl rfl hp hl (by omega) (by omega)
      · rintro H3 ⟨s3, b3, ds, hdl, hds, hD⟩
        obtain ⟨e1, e2, hz, hzl⟩ := pick_join (by omega) hds hD
        exact ⟨"", D, ds.map sg, rfl, rfl, .inl (.inl (.inl e1)), e2, q H3 _ hz (by omega) (s3.mono (by omega)) (b12.trans b3)⟩
end
end SWL
set_option Elab.async false
set_option linter.all false
set_option maxRecDepth 100000
set_option maxHeartbeats 8000000
namespace SWL
open PySem PySem.Spec PyProof.Rows L2 LamX NdefX
/-! the class Algebra: its state; led_on -/
abbrev sAInit : Stmt := inClass sAlgebra 0
abbrev sLed : Stmt := inClass sAlgebra 1
abbrev sALen : Stmt := inClass sAlgebra 2
abbrev sANeed : Stmt := inClass sAlgebra 3
abbrev sALet : Stmt := inClass sAlgebra 4
abbrev sAElem : Stmt := inClass sAlgebra 7
abbrev sAProd : Stmt := inClass sAlgebra 8
abbrev sATimes : Stmt := inClass sAlgebra 9
def keyD (d : List Nat) : List L2.Key := d.map fun n => .inl ((n : Nat) : Int)
theorem keyD_vals (d : List Nat) : (keyD d).map kV = d.map nV := by
  unfold keyD
  rw [List.map_map]
  rfl
theorem keyD_inj : ∀ {d e : List Nat}, keyD d = keyD e → d = e
  | [], [], _ => rfl
  | [], _ :: _, h => by cases h
  | _ :: _, [], h => by cases h
  | a :: d, b :: e, h => by
    obtain ⟨h1, h2⟩ := List.cons.inj h
    have := Sum.inl.inj h1
    rw [keyD_inj (d := d) (e := e) h2, show a = b by omega]
def NumD (H : Hp) (N : Addr) (D : List (List Nat)) : Prop := ∃ kvs : List (List L2.Key × V), H N = some (.dT kvs) ∧ kvs.length = D.length ∧ ∀ d : List Nat, valV kvs (keyD d) = if d ∈ D then some (nV (D.idxOf d)) else none
theorem NumD.keep {H H' : Hp} {N : Addr} {D : List (List Nat)} (g : ∀ o, H N = some o → H' N = some o) (h : NumD H N D) : NumD H' N D := let ⟨kvs, h1, h2, h3⟩ := h; ⟨kvs, g _ h1, h2, h3⟩
theorem NumD.put {H : Hp} {N : Addr} {D : List (List Nat)} {d : List Nat} {kvs : List (List L2.Key × V)} (h1 : kvs.length = D.length) (h2 : ∀ d : List Nat, valV kvs (keyD d) = if d ∈ D then some (nV (D.idxOf d)) else none) (hd : d ∉ D) : NumD (upd H N (.dT (putK kvs (keyD d) (nV D.length)))) N (D ++ [d]) := by
  have e : valV kvs (keyD d) = none := by rw [h2, if_neg hd]
  refine ⟨_, upd_same, by rw [putK_new _ e, List.length_append, List.length_append, h1]; rfl, fun c => ?_⟩
  rw [valV_put, h2]
  by_cases k : c = d
  · subst k
    rw [if_pos rfl, if_pos (List.mem_append_right _ List.mem_cons_self), List.idxOf_append, if_neg hd]
    congr 2
    simp
  · rw [if_neg (fun z => k (keyD_inj z))]
    by_cases m : c ∈ D
    · rw [if_pos m, if_pos (List.mem_append_left _ m), List.idxOf_append, if_pos m]
    · rw [if_neg m, if_neg (fun z => by
        rcases List.mem_append.mp z with h | h
        · exact m h
        · exact k (List.mem_singleton.mp h))]
/-- a list of tuples of numbers -/
structure TupsAt (H : Hp) (vs : List V) (D : List (List Nat)) : Prop where
  len : vs.length = D.length
  at_ : ∀ (k : Nat) (d : List Nat), D[k]? = some d → ∃ a, vs[k]? = some (.ref a) ∧ H a = some (.tup (d.map nV))
theorem TupsAt.tups {H H' : Hp} (g : ∀ b xs, H b = some (.tup xs) → H' b = some (.tup xs)) {vs : List V} {D : List (List Nat)} (h : TupsAt H vs D) : TupsAt H' vs D := ⟨h.len, fun k d hd => let ⟨a, h1, h2⟩ := h.at_ k d hd; ⟨a, h1, g _ _ h2⟩⟩
theorem TupsAt.snoc {H : Hp} {vs : List V} {D : List (List Nat)} (h : TupsAt H vs D) {p : Addr} {d : List Nat} (hp : H p = some (.tup (d.map nV))) : TupsAt H (vs ++ [.ref p]) (D ++ [d]) := by
  refine ⟨by rw [List.length_append, List.length_append, h.len]; rfl, fun k e he => ?_⟩
  by_cases c : k < D.length
  · rw [List.getElem?_append_left c] at he
    obtain ⟨a, h1, h2⟩ := h.at_ k e he
    exact ⟨a, by rw [List.getElem?_append_left (by rw [h.len]; exact c)]; exact h1, h2⟩
  · have hk := (List.getElem?_eq_some_iff.mp he).1
    rw [List.length_append, List.length_singleton] at hk
    have h0 : k - D.length = 0 := by omega
    rw [List.getElem?_append_right (by omega), h0] at he
    rw [← Option.some.inj he]
    exact ⟨p, by rw [List.getElem?_append_right (by rw [h.len]; omega), h.len, h0]; rfl, hp⟩
/-- the fields -/
def alf (b d wl nb t : Addr) : List (Str × V) := putF "table" (.ref t) (putF "numbers_by" (.ref nb) (putF "word_list" (.ref wl) (putF "doings" (.ref d) (putF "base" (.ref b) ([])))))
theorem alf_0 (b d wl nb t : Addr) : (alf b d wl nb t).lookup ("base" : Str) = some (.ref b) := by
  unfold alf
  rw [lookup_putF, if_neg (by decide +kernel)]
  rw [lookup_putF, if_neg (by decide +kernel)]
  rw [lookup_putF, if_neg (by decide +kernel)]
  rw [lookup_putF, if_neg (by decide +kernel)]
  rw [lookup_putF, if_pos rfl]
theorem alf_1 (b d wl nb t : Addr) : (alf b d wl nb t).lookup ("doings" : Str) = some (.ref d) := by
  unfold alf
  rw [lookup_putF, if_neg (by decide +kernel)]
  rw [lookup_putF, if_neg (by decide +kernel)]
  rw [lookup_putF, if_neg (by decide +kernel)]
  rw [lookup_putF, if_pos rfl]
theorem alf_2 (b d wl nb t : Addr) : (alf b d wl nb t).lookup ("word_list" : Str) = some (.ref wl) := by
  unfold alf
  rw [lookup_putF, if_neg (by decide +kernel)]
  rw [lookup_putF, if_neg (by decide +kernel)]
  rw [lookup_putF, if_pos rfl]
theorem alf_3 (b d wl nb t : Addr) : (alf b d wl nb t).lookup ("numbers_by" : Str) = some (.ref nb) := by
  unfold alf
  rw [lookup_putF, if_neg (by decide +kernel)]
  rw [lookup_putF, if_pos rfl]
theorem alf_4 (b d wl nb t : Addr) : (alf b d wl nb t).lookup ("table" : Str) = some (.ref t) := by
  unfold alf
  rw [lookup_putF, if_pos rfl]
theorem alf_no (b d wl nb t : Addr) {m : Str} (h1 : ¬ m = "base") (h2 : ¬ m = "doings") (h3 : ¬ m = "word_list") (h4 : ¬ m = "numbers_by") (h5 : ¬ m = "table") : (alf b d wl nb t).lookup m = none := by
  unfold alf
  rw [lookup_putF, if_neg h5, lookup_putF, if_neg h4, lookup_putF, if_neg h3, lookup_putF, if_neg h2, lookup_putF, if_neg h1]
  rfl
/-- the class -/
structure AlC (K : PySem.W.Frag) (C : Addr) : Prop where
  cl : Cls K C
  n0 : NoAttr K C "base"
  n1 : NoAttr K C "doings"
  n2 : NoAttr K C "word_list"
  n3 : NoAttr K C "numbers_by"
  n4 : NoAttr K C "table"
/-- what stood when the base was made -/
structure AlB (H1 : Hp) (x C mC b rl : Addr) (ls : Str) (R : List Rw) (xs : List V) : Prop where
  ox : ∃ dx fs, H1 x = some (.ins C dx fs)
  base : MachAt H1 b mC ls R
  bx : b ≠ x
  rl : H1 rl = some (.lst xs)
  rows : RowsAt H1 xs R
structure AlS (H1 H : Hp) (x C dx b d wl nb t : Addr) (R : List Rw) (ws tb : List (List Nat)) : Prop where
  obj : H x = some (.ins C dx (alf b d wl nb t))
  keep : ∀ c o, c ≠ x → H1 c = some o → H c = some o
  nd : H1 d = none
  nw : H1 wl = none
  nn : H1 nb = none
  nt : H1 t = none
  doi : ∃ vs, H d = some (.lst vs) ∧ TupsAt H vs (ws.map (doW R))
  wor : ∃ vs : List V, H wl = some (.lst vs) ∧ vs.length = ws.length ∧ ∀ (k : Nat) (v : V), vs[k]? = some v → ∃ z : Str, v = .str z ∧ z.length ≤ k
  num : NumD H nb (ws.map (doW R))
  tab : ∃ vs, H t = some (.lst vs) ∧ TupsAt H vs tb
  dw : d ≠ wl
  dt : d ≠ t
  wt : wl ≠ t
theorem AlS.grows {H1 H H' : Hp} {x C dx b d wl nb t : Addr} {R : List Rw} {ws tb : List (List Nat)} (S : AlS H1 H x C dx b d wl nb t R ws tb) (g : Grows H H') : AlS H1 H' x C dx b d wl nb t R ws tb := by
  obtain ⟨h1, h2, h3, h4, h5, h6, ⟨v1, a1, a2⟩, ⟨v2, b1, b2, b3⟩, h9, ⟨v3, c1, c2⟩, h11, h12, h13⟩ := S
  exact ⟨g _ _ h1, fun c o n e => g _ _ (h2 c o n e), h3, h4, h5, h6, ⟨v1, g _ _ a1, a2.tups fun b xs e => g _ _ e⟩, ⟨v2, g _ _ b1, b2, b3⟩, h9.keep fun o e => g _ _ e, ⟨v3, g _ _ c1, c2.tups fun b xs e => g _ _ e⟩, h11, h12, h13⟩
theorem AlS.off {H1 H : Hp} {x C dx b d wl nb t : Addr} {R : List Rw} {ws tb : List (List Nat)} (S : AlS H1 H x C dx b d wl nb t R ws tb) {F : Addr} {ys zs : List V} (hF : H F = some (.lst ys)) (h1 : H1 F = none) (fd : F ≠ d) (fw : F ≠ wl) (ft : F ≠ t) : AlS H1 (upd H F (.lst zs)) x C dx b d wl nb t R ws tb := by
  obtain ⟨p1, h2, h3, h4, h5, h6, ⟨v1, a1, a2⟩, ⟨v2, b1, b2, b3⟩, ⟨kvs, n1, n2, n3⟩, ⟨v3, c1, c2⟩, h11, h12, h13⟩ := S
  have tp : ∀ b xs, H b = some (.tup xs) → upd H F (.lst zs) b = some (.tup xs) := fun b xs e => by rw [upd_ne (ne_of e hF (by intro z; cases z))]; exact e
  refine ⟨by rw [upd_ne (ne_of p1 hF (by intro z; cases z))]; exact p1, fun c o n e => by rw [upd_ne (fun z => by rw [z, h1] at e; cases e)]; exact h2 c o n e, h3, h4, h5, h6, ⟨v1, by rw [upd_ne fd.symm]; exact a1, a2.tups tp⟩, ⟨v2, by rw [upd_ne fw.symm]; exact b1, b2, b3⟩, ⟨kvs, by rw [upd_ne (ne_of n1 hF (by intro z; cases z))]; exact n1, n2, n3⟩, ⟨v3, by rw [upd_ne ft.symm]; exact c1, c2.tups tp⟩, h11, h12, h13⟩
theorem AlS.more {H1 H : Hp} {x C dx b d wl nb t p : Addr} {R : List Rw} {ws tb : List (List Nat)} (S : AlS H1 H x C dx b d wl nb t R ws tb) {u : List Nat} {vs zs : List V} {kvs : List (List L2.Key × V)} {z : Str} (kd : H d = some (.lst vs)) (td : TupsAt H vs (ws.map (doW R))) (kw : H wl = some (.lst zs)) (zl : zs.length = ws.length)
    (zz : ∀ (k : Nat) (v : V), zs[k]? = some v → ∃ z : Str, v = .str z ∧ z.length ≤ k) (n1 : H nb = some (.dT kvs)) (n2 : kvs.length = (ws.map (doW R)).length) (n3 : ∀ e : List Nat, valV kvs (keyD e) = if e ∈ ws.map (doW R) then some (nV ((ws.map (doW R)).idxOf e)) else none)
    (hp : H p = some (.tup ((doW R u).map nV))) (hn : doW R u ∉ ws.map (doW R)) (hz : z.length ≤ ws.length) :
    AlS H1 (upd (upd (upd H nb (.dT (putK kvs (keyD (doW R u)) (nV (ws.map (doW R)).length)))) d (.lst (vs ++ [.ref p]))) wl (.lst (zs ++ [.str z]))) x C dx b d wl nb t R (ws ++ [u]) tb := by
  obtain ⟨p1, h2, h3, h4, h5, h6, _, _, _, ⟨v3, c1, c2⟩, h11, h12, h13⟩ := S
  have nd : nb ≠ d := ne_of n1 kd (by intro z; cases z)
  have nw : nb ≠ wl := ne_of n1 kw (by intro z; cases z)
  have tp : ∀ b xs, H b = some (.tup xs) → (upd (upd (upd H nb (.dT (putK kvs (keyD (doW R u)) (nV (ws.map (doW R)).length)))) d (.lst (vs ++ [.ref p]))) wl (.lst (zs ++ [.str z]))) b = some (.tup xs) := fun b xs e => by
    rw [upd_ne (ne_of e kw (by intro z; cases z)), upd_ne (ne_of e kd (by intro z; cases z)), upd_ne (ne_of e n1 (by intro z; cases z))]
    exact e
  refine ⟨?_, fun c o n e => ?_, h3, h4, h5, h6, ⟨vs ++ [.ref p], by rw [upd_ne h11, upd_same], ?_⟩, ⟨zs ++ [.str z], upd_same, by rw [List.length_append, List.length_append, zl]; rfl, fun k v hv => ?_⟩, ?_, ⟨v3, ?_, c2.tups tp⟩, h11, h12, h13⟩
  · rw [upd_ne (ne_of p1 kw (by intro z; cases z)), upd_ne (ne_of p1 kd (by intro z; cases z)), upd_ne (ne_of p1 n1 (by intro z; cases z))]
    exact p1
  · rw [upd_ne (fun z => by rw [z, h4] at e; cases e), upd_ne (fun z => by rw [z, h3] at e; cases e), upd_ne (fun z => by rw [z, h5] at e; cases e)]
    exact h2 c o n e
  · rw [List.map_append]
    exact (td.tups tp).snoc (tp _ _ hp)
  · by_cases c : k < zs.length
    · rw [List.getElem?_append_left c] at hv
      exact zz k v hv
    · have hk := (List.getElem?_eq_some_iff.mp hv).1
      rw [List.length_append, List.length_singleton] at hk
      have h0 : k - zs.length = 0 := by omega
      rw [List.getElem?_append_right (by omega), h0] at hv
      exact ⟨z, (Option.some.inj hv).symm, by omega⟩
  · obtain ⟨kv2, q1, q2, q3⟩ := NumD.put (H := H) (N := nb) n2 n3 hn
    rw [upd_same] at q1
    rw [List.map_append]
    exact ⟨kv2, by rw [upd_ne nw, upd_ne nd, upd_same]; exact q1, q2, q3⟩
  · rw [upd_ne h13.symm, upd_ne h12.symm, upd_ne (ne_of c1 n1 (by intro z; cases z))]
    exact c1
theorem MachAt.keep {H H' : Hp} {x C b mC : Addr} {ls : Str} {R : List Rw} (h : MachAt H b mC ls R) (bx : b ≠ x) (hx : ∃ dx fs, H x = some (.ins C dx fs)) (k : ∀ c o, c ≠ x → H c = some o → H' c = some o) : MachAt H' b mC ls R := by
  obtain ⟨dx, L, vs, h1, h2, h3⟩ := h.obj
  obtain ⟨dx0, fs, e⟩ := hx
  refine ⟨dx, L, vs, k _ _ bx h1, k _ _ (ne_of h2 e (by intro z; cases z)) h2, h3.len, fun i v r h4 h5 => ?_⟩
  obtain ⟨a, t, e1, e2, e3⟩ := h3.at_ i v r h4 h5
  exact ⟨a, t, e1, k _ _ (ne_of e2 e (by intro z; cases z)) e2, k _ _ (ne_of e3 e (by intro z; cases z)) e3⟩
theorem AlB.base' {H1 H : Hp} {x C mC dx b rl d wl nb t : Addr} {ls : Str} {R : List Rw} {xs : List V} {ws tb : List (List Nat)} (B : AlB H1 x C mC b rl ls R xs) (S : AlS H1 H x C dx b d wl nb t R ws tb) : MachAt H b mC ls R := B.base.keep B.bx B.ox S.keep
theorem AlB.rl' {H1 H : Hp} {x C mC dx b rl d wl nb t : Addr} {ls : Str} {R : List Rw} {xs : List V} {ws tb : List (List Nat)} (B : AlB H1 x C mC b rl ls R xs) (S : AlS H1 H x C dx b d wl nb t R ws tb) : H rl = some (.lst xs) ∧ RowsAt H xs R := by
  obtain ⟨dx0, fs, e⟩ := B.ox
  refine ⟨S.keep _ _ (ne_of B.rl e (by intro z; cases z)) B.rl, B.rows.len, fun i v r h4 h5 => ?_⟩
  obtain ⟨a, t, e1, e2, e3⟩ := B.rows.at_ i v r h4 h5
  exact ⟨a, t, e1, S.keep _ _ (ne_of e2 e (by intro z; cases z)) e2, S.keep _ _ (ne_of e3 e (by intro z; cases z)) e3⟩
/-- the numbers so far -/
structure GenOk (m : Nat) (R : List Rw) (ws tb : List (List Nat)) : Prop where
  nd : (ws.map (doW R)).Nodup
  lw : ∀ w ∈ ws, Lw m w
  fst : ws[0]? = some []
  row : ∀ (i : Nat) (r : List Nat), tb[i]? = some r → r.length = m ∧ ∃ w, ws[i]? = some w ∧ ∀ j, j < m → ∃ k w', r[j]? = some k ∧ ws[k]? = some w' ∧ doW R w' = doW R (w ++ [j])
theorem ext_get {α : Type} {l l' : List α} {k : Nat} {a : α} (h : l[k]? = some a) : (l ++ l')[k]? = some a := by
  rw [List.getElem?_append_left (List.getElem?_eq_some_iff.mp h).1]
  exact h
theorem GenOk.more {m : Nat} {R : List Rw} {ws tb : List (List Nat)} (G : GenOk m R ws tb) {w : List Nat} (hw : Lw m w) (hn : doW R w ∉ ws.map (doW R)) : GenOk m R (ws ++ [w]) tb := by
  refine ⟨?_, fun u hu => ?_, ext_get G.fst, fun i r hr => ?_⟩
  · rw [List.map_append, List.nodup_append]
    refine ⟨G.nd, by simp, fun a ha b hb => ?_⟩
    rw [List.map_cons, List.map_nil, List.mem_singleton] at hb
    rw [hb]
    exact fun e => hn (e ▸ ha)
  · rcases List.mem_append.mp hu with h | h
    · exact G.lw u h
    · rw [List.mem_singleton.mp h]; exact hw
  · obtain ⟨h1, u, h2, h3⟩ := G.row i r hr
    exact ⟨h1, u, ext_get h2, fun j hj => let ⟨k, w', a, b, c⟩ := h3 j hj; ⟨k, w', a, ext_get b, c⟩⟩
theorem GenOk.elems {m : Nat} {R : List Rw} {ws tb : List (List Nat)} (W : WfR m R) (G : GenOk m R ws tb) (h : ws.length ≤ tb.length) : Elems m R (ws.map (doW R)) := by
  refine ⟨G.nd, fun d hd => ?_, fun w hw => ?_⟩
  · obtain ⟨w, h1, h2⟩ := List.mem_map.mp hd
    exact ⟨w, G.lw w h1, h2.symm⟩
  · have gen : ∀ r : List Nat, Lw m r.reverse → doW R r.reverse ∈ ws.map (doW R) := by
      intro r
      induction r with
      | nil => exact fun _ => List.mem_map.mpr ⟨[], List.mem_of_getElem? G.fst, rfl⟩
      | cons j r ih =>
        intro hr
        rw [List.reverse_cons] at hr ⊢
        obtain ⟨w, h1, h2⟩ := List.mem_map.mp (ih fun a ha => hr a (List.mem_append_left _ ha))
        obtain ⟨i, hi⟩ := List.getElem?_of_mem h1
        have il := (List.getElem?_eq_some_iff.mp hi).1
        obtain ⟨_, w2, e2, h3⟩ := G.row i _ (List.getElem?_eq_getElem (show i < tb.length by omega))
        rw [hi] at e2
        obtain rfl := Option.some.inj e2
        obtain ⟨k, w', _, k2, k3⟩ := h3 j (hr j (List.mem_append_right _ List.mem_cons_self))
        rw [← doW_cong W h2 (rfl : doW R [j] = _), ← k3]
        exact List.mem_map.mpr ⟨w', List.mem_of_getElem? k2, rfl⟩
    have := gen w.reverse (by rw [List.reverse_reverse]; exact hw)
    rwa [List.reverse_reverse] at this
theorem idxD {l : List (List Nat)} {k : List Nat} (h : k ∈ l) : l[l.idxOf k]? = some k := by
  have h1 := List.idxOf_lt_length_of_mem h
  rw [List.getElem?_eq_getElem h1]
  exact congrArg some (List.getElem_idxOf h1)
theorem doW_step {m : Nat} {R : List Rw} (W : WfR m R) (w : List Nat) (j : Nat) : doW R (w ++ [j]) = (doW R w).map fun s => toR R s j := by
  unfold doW
  rw [List.map_map]
  refine List.map_congr_left fun s _ => ?_
  rw [runR_app]
  rfl
theorem doW_lt {m : Nat} {R : List Rw} (W : WfR m R) {w : List Nat} : ∀ s ∈ doW R w, s < R.length := fun s hs => by
  unfold doW at hs
  obtain ⟨a, ha, rfl⟩ := List.mem_map.mp hs
  exact runR_lt' W (List.mem_range.mp ha)
def spLed (C mC : Addr) : Sp := fun vs H Q _ => ∃ (H1 : Hp) (x dx b rl d wl nb t : Addr) (ls : Str) (R : List Rw) (xs : List V) (ws tb : List (List Nat)) (i : Nat) (w : List Nat), vs = [.ref x, .ref rl, nV i] ∧ AlB H1 x C mC b rl ls R xs ∧ AlS H1 H x C dx b d wl nb t R ws tb ∧ WfR ls.length R ∧ R.length ≤ 60 ∧ ls.length ≤ 4 ∧ GenOk ls.length R ws tb ∧ ws[i]? = some w ∧
  (∀ us : List (List Nat), (∀ u ∈ us, Lw ls.length u) → (us.map (doW R)).Nodup → us.length ≤ 24) ∧
  ∀ (H' : Hp) (ws' : List (List Nat)) (p : Addr) (r : List Nat), AlS H1 H' x C dx b d wl nb t R ws' tb → GenOk ls.length R ws' tb → (∀ (k : Nat) (u : List Nat), ws[k]? = some u → ws'[k]? = some u) → H' p = some (.tup (r.map nV)) → r.length = ls.length → (∀ j, j < ls.length → ∃ k w', r[j]? = some k ∧ ws'[k]? = some w' ∧ doW R w' = doW R (w ++ [j])) → Q (.ref p) H'
abbrev NLed : List Str := ["self", "rows", "i", "found", "x", "letter", "doing", "stand"]
section
variable {P : Program} {w : World} {K : PySem.W.Frag} {mg : Str → Option Value} {base : Heap}
theorem scLed : FnScope NLed ["self", "rows", "i"] (defScope sLed) := ⟨rfl, rfl, rfl, by decide +kernel, rfl, by decide +kernel, by decide +kernel⟩
theorem ok_led {f C mC fl fr : Addr} {fd fdl : FuncData} (F : L2.Fun K "led_on" "Algebra.led_on" sLed f fd) (B : Blt mg) (T : AlC K C) (TC : McC K mg mC fl fr)
    (GML : FnOk P w K mg base CX0 1 fl fdl ["self"] (spMLet mC)) (bL : Binds K fdl ["self"] []) : FnOk P w K mg base CX0 3 f fd ["self", "rows", "i"] (spLed C mC) := by
  refine F.ok scLed (fun vs H Q E h => ?_) (fun cdv A outer s H vs Q E hr h => ⟨_,
    (pss_cons (ps_set (i := 3) scLed.nd rfl (Or.inl rfl) (pe_lst pa_nil))
      (pss_cons (ps_for PassesOwn.never rfl (pi_enumS (by rfl) B.enum (pa_cons (pe_meth0 (pe_fld (pv 0) rfl) TC.cl TC.mL GML (hr.mono (by decide)) bL .nil pass0) pa_nil)) (pg_tup rfl (pgs_cons (pg_name (i := 4) scLed.nd rfl (Or.inr rfl)) (pgs_cons (pg_name (i := 5) scLed.nd rfl (Or.inl rfl)) pgs_nil))) (pss_cons (ps_set (i := 6) scLed.nd rfl (Or.inl rfl) (pe_callTy call_tuple_of (by rfl) B.tuple (by decide +kernel) (pa_cons (pe_lc (own := [("stand", 7)]) (g := (gName 7)) (tt := tYes) (te := (tOp (rIxT K) (tOp (rIxT K) (tOp (rIxL K) (tVar 1) (tVar 7)) (tC (.int 1))) (tVar 4))) rfl scLed.nd (pi_tup (pe_ix ix_list (pe_fld (pv 0) rfl) (pv 2) (fun _ _ => rfl))) (blkOk_by (N := NLed) (sc := defScope sLed) (by decide +kernel)) (fun _ _ _ _ _ => (pg_name (i := 7) scLed.nd rfl (Or.inl rfl))) (fun _ _ _ _ _ => pts_nil) (fun _ _ _ _ _ => (pe_ix ix_tup (pe_ix ix_tup (pe_ix ix_list (pv 1) (pv 7) (fun _ _ => rfl)) pe_int (fun _ _ => rfl)) (pv 4) (fun _ _ => rfl)))) pa_nil)))
      (pss_cons (ps_if (pt_cmp (pc_dnotin (hu_of hr) (pv 6) (pe_fld (pv 0) rfl)) (by decide)) (pss_cons (ps_if (pt_cmpR op_eq (pe_callB call_len_seq (by rfl) B.len PySem.boot_len (pa_cons (pe_fld (pv 0) rfl) pa_nil)) (pe_glob (v := (.int 200)) (by rfl) B.mostE.choose_spec ⟨_, rfl⟩) (nomark _)) pss_no pss_nil)
      (pss_cons (ps_dput (hu_of hr) (pe_fld (pv 0) rfl) (pv 6) (pe_callB call_len_seq (by rfl) B.len PySem.boot_len (pa_cons (pe_fld (pv 0) rfl) pa_nil)) rfl)
      (pss_cons (ps_expr (pe_bm PySem.F.plainAttrs_list PySem.F.slot_list_append PySem.F.type_list_append mt_append (pe_fld (pv 0) rfl) (pa_cons (pv 6) pa_nil)))
      (pss_one (ps_expr (pe_bm PySem.F.plainAttrs_list PySem.F.slot_list_append PySem.F.type_list_append mt_append (pe_fld (pv 0) rfl) (pa_cons (pe_op op_add_str (pe_ix ix_list (pe_fld (pv 0) rfl) (pv 2) (fun _ _ => rfl)) (pv 5)) pa_nil))))))) pss_nil)
      (pss_one (ps_expr (pe_bm PySem.F.plainAttrs_list PySem.F.slot_list_append PySem.F.type_list_append mt_append (pv 3) (pa_cons (pe_dget (hu_of hr) (pe_fld (pv 0) rfl) (pv 6) (fun _ _ => rfl)) pa_nil)))))))
      (pss_one (ps_ret (pe_callTy call_tuple_of (by rfl) B.tuple (by decide +kernel) (pa_cons (pv 3) pa_nil)))))), ?_⟩)
  · obtain ⟨_, _, _, _, _, _, _, _, _, _, _, _, _, _, _, _, rfl, _⟩ := h
    rfl
  · obtain ⟨H1, x, dx, b, rl, d, wl, nb, t, ls, R, xs, ws, tb, i, w, rfl, AB, S, W, h60, hls, G, hw, few, q⟩ := h
    have sz : sizeLine = 16777216 := sizeLine_eq
    have lsl : ls.cps.toList.length = ls.length := cut_len ls
    refine ⟨by show 0 ≤ sizeLine; omega, fun Fo nF => ?_⟩
    have gF : Grows H (upd H Fo (.lst [])) := Grows.new nF
    have kF : upd H Fo (.lst []) Fo = some (.lst (([] : List Nat).map nV)) := upd_same
    have nF1 : H1 Fo = none := by
      by_cases c : Fo = x
      · rw [c, S.obj] at nF; cases nF
      · cases e : H1 Fo with
        | none => rfl
        | some o => rw [S.keep _ _ c e] at nF; cases nF
    have Fd : Fo ≠ d := fun e => by obtain ⟨v, h, _⟩ := S.doi; rw [e, h] at nF; cases nF
    have Fw : Fo ≠ wl := fun e => by obtain ⟨v, h, _⟩ := S.wor; rw [e, h] at nF; cases nF
    have Ft : Fo ≠ t := fun e => by obtain ⟨v, h, _⟩ := S.tab; rw [e, h] at nF; cases nF
    have Fx : Fo ≠ x := fun e => by rw [e, S.obj] at nF; cases nF
    have S1 := S.grows gF
    generalize upd H Fo (.lst []) = H2 at gF kF S1 ⊢
    obtain ⟨mdx, mL, mvs, m1, m2, m3⟩ := (AB.base' S1).obj
    refine ⟨_, rfl, x, C, dx, _, .ref b, rfl, S1.obj, T.cl, T.n0, alf_0 .., b, mdx, _, rfl, m1, mcf_no ls mL (by decide +kernel) (by decide +kernel), b, ls, R, rfl, AB.base' S1, ls, rfl, ?_⟩
    clear m1 m2 m3
    refine for_it walk_enumS (fun j σ H' => ∃ (ws' : List (List Nat)) (r : List Nat) (v4 v5 v6 v7 : Option V), σ = [some (.ref x), some (.ref rl), some (nV i), some (.ref Fo), v4, v5, v6, v7] ∧ AlS H1 H' x C dx b d wl nb t R ws' tb ∧ GenOk ls.length R ws' tb ∧ (∀ (k : Nat) (u : List Nat), ws[k]? = some u → ws'[k]? = some u) ∧
        H' Fo = some (.lst (r.map nV)) ∧ r.length = j ∧ ∀ a, a < j → ∃ k w', r[a]? = some k ∧ ws'[k]? = some w' ∧ doW R w' = doW R (w ++ [a]))
      ⟨ws, [], _, _, _, _, rfl, S1, G, fun _ _ h => h, kF, rfl, fun a h => absurd h (Nat.not_lt_zero a)⟩ (fun _ _ _ _ _ => trivial) ?_ ?_
    · rintro j y σ H3 H4 hj ⟨ws', r, v4, v5, v6, v7, rfl, S3, G3, ex, kF3, rl3, rr⟩ ⟨tp, _, _, rfl, ntp, rfl, e1, e2⟩
      have hjl : j < ls.length := by rw [← lsl]; exact hj
      obtain ⟨c, hc⟩ : ∃ c, ls.cps.toList[j]? = some c := ⟨_, List.getElem?_eq_getElem hj⟩
      have e1' := (Option.some.inj e1).symm
      have e2 : ls.cps.toList[j]?.map (fun c => V.str { cps := #[c] }) = some _ := e2
      rw [hc] at e2
      have e2' := (Option.some.inj e2).symm
      subst e1' e2'
      have g3 : Grows H3 (upd H3 tp (.tup [.int ((j : Nat) : Int), .str ⟨#[c]⟩])) := Grows.new ntp
      refine ⟨tp, _, rfl, .inl (.inl upd_same), rfl, _, _, rfl, _, _, rfl, rfl, ?_⟩
      have S4 := S3.grows g3
      have kF4 := g3 _ _ kF3
      generalize upd H3 tp (.tup [.int ((j : Nat) : Int), .str ⟨#[c]⟩]) = H4 at S4 kF4 ⊢
      clear S3 kF3 g3 ntp
      have hw' := ex i w hw
      obtain ⟨vs, kd, td⟩ := S4.doi
      have hD : (ws'.map (doW R))[i]? = some (doW R w) := by rw [List.getElem?_map, hw']; rfl
      obtain ⟨pa, pv1, pv2⟩ := td.at_ i _ hD
      -- the doing
      refine ⟨_, rfl, x, C, dx, _, .ref d, rfl, S4.obj, T.cl, T.n1, alf_1 .., _, rfl, d, vs, _, .ref pa, rfl, rfl, .inl (.inl kd), atI_nat (j := i) pv1, pa, rfl, ⟨_, .inl (.inl pv2)⟩, fun D2 nD2 => ?_⟩
      obtain ⟨krl, krows⟩ := AB.rl' S4
      have D2d : ∀ {a o}, H4 a = some o → a ≠ D2 := fun e => ne_of_none e nD2
      refine comp1 (I := doW R w) (gv := nV) (i := 7) (tt := tYes) (te := (tOp (rIxT K) (tOp (rIxT K) (tOp (rIxL K) (tVar 1) (tVar 7)) (tC (.int 1))) (tVar 4))) (G := fun H => SqT K H pa ((doW R w).map nV)) (by have := walk_tup (K := K) (a := pa) (xs := (doW R w).map nV); rw [List.length_map] at this; exact this) (fun _ => true) (fun s => nV (toR R s j)) nD2 (fun H' g => .inl (.inl (g _ _ pv2)))
        (by rw [doW_len]; omega) (fun s H k _ g hk => hk H (Grows.refl H)) (fun s H' Q hs _ g hq => ?_) (fun H5 g5 kD2 => ?_)
      · have sl := doW_lt W s hs
        obtain ⟨rw1, hr1, lr1⟩ := W.row sl
        have sl2 : s < xs.length := by rw [krows.len]; exact sl
        have e1 : xs[s]? = some xs[s] := List.getElem?_eq_getElem sl2
        obtain ⟨a, u, ea, ha, hu⟩ := krows.at_ s _ rw1 e1 hr1
        rw [ea] at e1
        exact ⟨_, rfl, _, rfl, rl, xs, _, .ref a, rfl, rfl, .inl (.inl (g _ _ krl)), atI_nat (j := s) e1, a, _, _, _, rfl, rfl, .inl (.inl (g _ _ ha)), atI_nat (j := 1) rfl, _, rfl, u, _, _, _, rfl, rfl, .inl (.inl (g _ _ hu)), atI_nat (j := j) (by rw [List.getElem?_map, (W.to sl hjl).2 _ hr1]; rfl), hq H' (Grows.refl H')⟩
      rw [filter_yes] at kD2
      have eD : (doW R w).map (fun s => nV (toR R s j)) = (doW R (w ++ [j])).map nV := by rw [doW_step W, List.map_map]; rfl
      rw [eD] at kD2
      refine ⟨D2, _, rfl, .inl ⟨.inl (.inl kD2), fun p np => ?_⟩⟩
      have gp := g5.trans (Grows.new (o := .tup ((doW R (w ++ [j])).map nV)) np)
      have kp : upd H5 p (.tup ((doW R (w ++ [j])).map nV)) p = some (.tup ((keyD (doW R (w ++ [j]))).map kV)) := by rw [keyD_vals]; exact upd_same
      have S6 := S4.grows gp
      have kF6 := gp _ _ kF4
      generalize upd H5 p (.tup ((doW R (w ++ [j])).map nV)) = H6 at S6 kp kF6 ⊢
      clear S4 kF4 gp np kD2 g5 nD2 D2d krl krows kd td pv1 pv2 eD
      have lwj : Lw ls.length (w ++ [j]) := (G.lw w (List.mem_of_getElem? hw)).app fun a ha => by rw [List.mem_singleton.mp ha]; exact hjl
      obtain ⟨kvs, n1, n2, n3⟩ := S6.num
      have wlen := few ws' G3.lw G3.nd
      -- behind the if
      dsimp only [gName, tSeq, tNext, tAsg]
      refine (?_ : tIfS _ _ _ ?D1 _ _)
      have fin : ∀ (H8 : Hp) (ws2 : List (List Nat)) , AlS H1 H8 x C dx b d wl nb t R ws2 tb → GenOk ls.length R ws2 tb → (∀ (k : Nat) (u : List Nat), ws'[k]? = some u → ws2[k]? = some u) → H8 p = some (.tup ((keyD (doW R (w ++ [j]))).map kV)) → H8 Fo = some (.lst (r.map nV)) → doW R (w ++ [j]) ∈ ws2.map (doW R) → Ends.nx ?D1 [some (.ref x), some (.ref rl), some (nV i), some (.ref Fo), some (.int ((j : Nat) : Int)), some (.str ⟨#[c]⟩), some (.ref p), v7] H8 := fun H8 ws2 S8 G8 ex8 kp8 kF8 hm => ?_
      rotate_left
      · obtain ⟨kvs8, m1, m2, m3⟩ := S8.num
        have hi := List.idxOf_lt_length_of_mem hm
        refine ⟨_, rfl, .inl ⟨rfl, _, .inl (.inl kF8)⟩, _, rfl, x, C, dx, _, .ref nb, rfl, S8.obj, T.cl, T.n3, alf_3 .., _, rfl, nb, nV ((ws2.map (doW R)).idxOf (doW R (w ++ [j]))), rfl, ?_, Fo, _, _, rfl, rfl, kF8, by rw [List.length_map, rl3]; omega, ?_⟩
        · have := DGet.t m1 kp8
          rw [m3, if_pos hm] at this
          exact this
        · have hl : H8 Fo = some (.lst (r.map nV)) := kF8
          refine ⟨ws2, r ++ [(ws2.map (doW R)).idxOf (doW R (w ++ [j]))], _, _, _, _, rfl, S8.off kF8 nF1 Fd Fw Ft, G8, fun k u h => ex8 k u (ex k u h), by rw [upd_same, List.map_append]; rfl, by rw [List.length_append, rl3]; rfl, fun a ha => ?_⟩
          by_cases ca : a < j
          · obtain ⟨k, w', q1, q2, q3⟩ := rr a ca
            exact ⟨k, w', ext_get q1, ex8 _ _ q2, q3⟩
          · obtain rfl : a = j := by omega
            have hi2 := hi
            rw [List.length_map] at hi2
            obtain ⟨w', hw2⟩ : ∃ w', ws2[(ws2.map (doW R)).idxOf (doW R (w ++ [a]))]? = some w' := ⟨_, List.getElem?_eq_getElem hi2⟩
            refine ⟨_, w', by rw [List.getElem?_append_right (by omega), rl3, Nat.sub_self]; rfl, hw2, ?_⟩
            have e5 := idxD hm
            rw [List.getElem?_map, hw2] at e5
            exact Option.some.inj e5
      refine ⟨_, rfl, _, rfl, x, C, dx, _, .ref nb, rfl, S6.obj, T.cl, T.n3, alf_3 .., nb, _, rfl, DGet.t n1 kp, ?_⟩
      rw [n3]
      by_cases hm : doW R (w ++ [j]) ∈ ws'.map (doW R)
      · rw [if_pos hm]
        exact ⟨_, rfl, if_neg_of (by show ¬ (!true) = true; decide) (fin H6 ws' S6 G3 (fun _ _ h => h) kp kF6 hm)⟩
      · rw [if_neg hm]
        refine ⟨_, rfl, if_pos_of rfl ?_⟩
        obtain ⟨vs6, kd6, td6⟩ := S6.doi
        obtain ⟨zs6, kw6, zl6, zz6⟩ := S6.wor
        have dl6 := td6.len
        rw [List.length_map] at dl6
        have hiw := (List.getElem?_eq_some_iff.mp hw').1
        have hpt : H6 p = some (.tup ((doW R (w ++ [j])).map nV)) := by rw [← keyD_vals]; exact kp
        refine ⟨_, rfl, x, C, dx, _, .ref d, rfl, S6.obj, T.cl, T.n1, alf_1 .., d, vs6, rfl, .inl (.inl (.inl kd6)), rfl, _, rfl, if_neg_of (by rw [decide_eq_false (fun e => by have := V.int.inj e; omega)]; decide) ?_⟩
        refine ⟨_, rfl, x, C, dx, _, .ref d, rfl, S6.obj, T.cl, T.n1, alf_1 .., d, vs6, rfl, .inl (.inl (.inl kd6)), _, rfl, x, C, dx, _, .ref nb, rfl, S6.obj, T.cl, T.n3, alf_3 .., _, rfl, nb, _, rfl, DPut.t n1 kp (by rw [n2, List.length_map]; omega), ?_⟩
        rw [show ((vs6.length : Nat) : Int) = (((ws'.map (doW R)).length : Nat) : Int) by rw [List.length_map, dl6]]
        obtain ⟨z, hz1, hz2⟩ : ∃ z : Str, zs6[i]? = some (.str z) ∧ z.length ≤ i := by
          have e : zs6[i]? = some zs6[i] := List.getElem?_eq_getElem (by omega)
          obtain ⟨z, h1, h2⟩ := zz6 i _ e
          rw [h1] at e
          exact ⟨z, e, h2⟩
        have zl7 : (z ++ (⟨#[c]⟩ : Str)).length = z.length + 1 := by
          show (z.cps ++ #[c]).size = z.cps.size + 1
          rw [Array.size_append]
          rfl
        have S9 := S6.more (u := w ++ [j]) (z := z ++ (⟨#[c]⟩ : Str)) kd6 td6 kw6 zl6 zz6 n1 n2 n3 hpt hm (by omega)
        have G9 := G3.more lwj hm
        have nbd : nb ≠ d := ne_of n1 kd6 (by intro z; cases z)
        have nbw : nb ≠ wl := ne_of n1 kw6 (by intro z; cases z)
        have o7 : upd H6 nb (.dT (putK kvs (keyD (doW R (w ++ [j]))) (nV (ws'.map (doW R)).length))) x = some (.ins C dx (alf b d wl nb t)) := by rw [upd_ne (ne_of S6.obj n1 (by intro z; cases z))]; exact S6.obj
        have d7 : upd H6 nb (.dT (putK kvs (keyD (doW R (w ++ [j]))) (nV (ws'.map (doW R)).length))) d = some (.lst vs6) := by rw [upd_ne nbd.symm]; exact kd6
        have w7 : upd H6 nb (.dT (putK kvs (keyD (doW R (w ++ [j]))) (nV (ws'.map (doW R)).length))) wl = some (.lst zs6) := by rw [upd_ne nbw.symm]; exact kw6
        have p7 : upd H6 nb (.dT (putK kvs (keyD (doW R (w ++ [j]))) (nV (ws'.map (doW R)).length))) p = some (.tup ((keyD (doW R (w ++ [j]))).map kV)) := by rw [upd_ne (ne_of kp n1 (by intro z; cases z))]; exact kp
        have f7 : upd H6 nb (.dT (putK kvs (keyD (doW R (w ++ [j]))) (nV (ws'.map (doW R)).length))) Fo = some (.lst (r.map nV)) := by rw [upd_ne (ne_of kF6 n1 (by intro z; cases z))]; exact kF6
        show _
        unfold nV at o7 d7 w7 p7 f7 S9
        generalize upd H6 nb (.dT (putK kvs (keyD (doW R (w ++ [j]))) (.int (((ws'.map (doW R)).length : Nat) : Int)))) = H7 at o7 d7 w7 p7 f7 S9 ⊢
        refine ⟨_, rfl, x, C, dx, _, .ref d, rfl, o7, T.cl, T.n1, alf_1 .., .inl ⟨rfl, _, .inl (.inl d7)⟩, _, rfl, d, _, _, rfl, rfl, d7, by omega, ?_⟩
        have o8 : upd H7 d (.lst (vs6 ++ [.ref p])) x = some (.ins C dx (alf b d wl nb t)) := by rw [upd_ne (ne_of o7 d7 (by intro z; cases z))]; exact o7
        have w8 : upd H7 d (.lst (vs6 ++ [.ref p])) wl = some (.lst zs6) := by rw [upd_ne S6.dw.symm]; exact w7
        refine ⟨_, rfl, x, C, dx, _, .ref wl, rfl, o8, T.cl, T.n2, alf_2 .., .inl ⟨rfl, _, .inl (.inl w8)⟩, _, rfl, x, C, dx, _, .ref wl, rfl, o8, T.cl, T.n2, alf_2 .., _, rfl, wl, zs6, _, .str z, rfl, rfl, .inl (.inl w8), atI_nat (j := i) hz1, _, rfl, _, _, rfl, rfl, (by show z.length + 1 ≤ sizeLine; omega), wl, _, _, rfl, rfl, w8, by omega, ?_⟩
        refine fin _ (ws' ++ [w ++ [j]]) S9 G9 (fun k u h => ext_get h) ?_ ?_ ?_
        · rw [upd_ne (ne_of p7 w7 (by intro z; cases z)), upd_ne (ne_of p7 d7 (by intro z; cases z))]
          exact p7
        · rw [upd_ne Fw, upd_ne Fd]
          exact f7
        · rw [List.map_append]
          exact List.mem_append_right _ List.mem_cons_self
    · rintro σ H3 ⟨ws', r, v4, v5, v6, v7, rfl, S3, G3, ex, kF3, rl3, rr⟩
      refine ⟨_, rfl, Fo, _, rfl, .inl ⟨.inl (.inl kF3), fun p np => ?_⟩⟩
      exact q _ ws' p r (S3.grows (Grows.new np)) G3 ex upd_same (by rw [rl3, lsl]) (by rw [← lsl]; exact rr)
end
end SWL
set_option Elab.async false
set_option linter.all false
set_option maxRecDepth 100000
set_option maxHeartbeats 8000000
namespace SWL
open PySem PySem.Spec PyProof.Rows L2 LamX NdefX
/-! Algebra.__init__ -/
structure AlgAt (H : Hp) (x C mC : Addr) (ls : Str) (R : List Rw) (ws tb : List (List Nat)) : Prop where
  at_ : ∃ dx b d wl nb t, H x = some (.ins C dx (alf b d wl nb t)) ∧ MachAt H b mC ls R ∧ (∃ vs, H d = some (.lst vs) ∧ TupsAt H vs (ws.map (doW R))) ∧ NumD H nb (ws.map (doW R)) ∧ ∃ vs, H t = some (.lst vs) ∧ TupsAt H vs tb
theorem AlgAt.grows {H H' : Hp} (g : Grows H H') {x C mC : Addr} {ls : Str} {R : List Rw} {ws tb : List (List Nat)} (h : AlgAt H x C mC ls R ws tb) : AlgAt H' x C mC ls R ws tb := by
  obtain ⟨dx, b, d, wl, nb, t, h1, h2, ⟨v1, a1, a2⟩, h3, ⟨v2, b1, b2⟩⟩ := h.at_
  exact ⟨dx, b, d, wl, nb, t, g _ _ h1, h2.grows g, ⟨v1, g _ _ a1, a2.tups fun b xs e => g _ _ e⟩, h3.keep fun o e => g _ _ e, ⟨v2, g _ _ b1, b2.tups fun b xs e => g _ _ e⟩⟩
theorem AlS.tabS {H1 H : Hp} {x C dx b d wl nb t p : Addr} {R : List Rw} {ws tb : List (List Nat)} (S : AlS H1 H x C dx b d wl nb t R ws tb) {vs : List V} {r : List Nat} (kt : H t = some (.lst vs)) (tt : TupsAt H vs tb) (hp : H p = some (.tup (r.map nV))) : AlS H1 (upd H t (.lst (vs ++ [.ref p]))) x C dx b d wl nb t R ws (tb ++ [r]) := by
  obtain ⟨p1, h2, h3, h4, h5, h6, ⟨v1, a1, a2⟩, ⟨v2, b1, b2, b3⟩, ⟨kvs, n1, n2, n3⟩, _, h11, h12, h13⟩ := S
  have tp : ∀ b xs, H b = some (.tup xs) → upd H t (.lst (vs ++ [.ref p])) b = some (.tup xs) := fun b xs e => by rw [upd_ne (ne_of e kt (by intro z; cases z))]; exact e
  exact ⟨by rw [upd_ne (ne_of p1 kt (by intro z; cases z))]; exact p1, fun c o n e => by rw [upd_ne (fun z => by rw [z, h6] at e; cases e)]; exact h2 c o n e, h3, h4, h5, h6, ⟨v1, by rw [upd_ne h12]; exact a1, a2.tups tp⟩, ⟨v2, by rw [upd_ne h13]; exact b1, b2, b3⟩, ⟨kvs, by rw [upd_ne (ne_of n1 kt (by intro z; cases z))]; exact n1, n2, n3⟩, ⟨_, upd_same, (tt.tups tp).snoc (tp _ _ hp)⟩, h11, h12, h13⟩
/-- an algebra of a least table of the same words -/
structure AlOk (ls : Str) (R R' : List Rw) (ws tb : List (List Nat)) : Prop where
  wf : WfR ls.length R'
  few : R'.length ≤ 60
  gen : GenOk ls.length R' ws tb
  whole : ws.length ≤ tb.length
  cnt : ws.length ≤ 24
  rc : Reach ls.length R'
  mn : Mn ls.length R'
  same : Same ls.length R' R 0
def spAInit (C mC Pl : Addr) : Sp := fun vs H Q _ => ∃ (x dx ma : Addr) (ls : Str) (R : List Rw), vs = [.ref x, .ref ma] ∧ H x = some (.ins C dx []) ∧ MachAt H ma mC ls R ∧ okLetters ls = true ∧ 1 ≤ ls.length ∧ ls.length ≤ 4 ∧ ls.cps.toList.Nodup ∧ WfR ls.length R ∧ R.length ≤ 60 ∧ TabsN [(Pl, nmL)] H ∧ Few ls.length (tkR R 0) 24 ∧
  ∀ (H' : Hp) (R' : List Rw) (ws tb : List (List Nat)), (∀ c o, c ≠ x → H c = some o → (∀ ps, o ≠ .tbl ps) → H' c = some o) → (∀ c, H' c = none → H c = none) → TabsN [(Pl, nmL)] H' → AlgAt H' x C mC ls R' ws tb → AlOk ls R R' ws tb → Q .non H'
abbrev NAi : List Str := ["self", "machine", "rows", "start"]
theorem back_new {H1 H : Hp} {x d : Addr} {o : HO} (k : ∀ c o, c ≠ x → H1 c = some o → H c = some o) (hx : H x = some o) (h : H d = none) : d ≠ x ∧ H1 d = none := by
  have c : d ≠ x := fun e => by rw [e, hx] at h; cases h
  refine ⟨c, ?_⟩
  cases e : H1 d with
  | none => rfl
  | some o => rw [k _ _ c e] at h; cases h
theorem tabs_keep {H H' : Hp} {x : Addr} {C dx : Addr} {fs : List (Str × V)} {T : List NTab} (t : TabsN T H) (hx : H x = some (.ins C dx fs)) (k : ∀ c o, c ≠ x → H c = some o → H' c = some o) : TabsN T H' := fun p hp => by
  obtain ⟨ps, e1, e2, e3⟩ := t p hp
  refine ⟨ps, k _ _ (ne_of e1 hx (by intro z; cases z)) e1, e2, fun pos cv hc => ?_⟩
  obtain ⟨d, f1, f2⟩ := e3 pos cv hc
  exact ⟨d, f1, k _ _ (ne_of f2 hx (by unfold CodeO; intro z; cases z)) f2⟩
section
variable {P : Program} {w : World} {K : PySem.W.Frag} {mg : Str → Option Value} {base : Heap}
theorem scAInit : FnScope NAi ["self", "machine"] (defScope sAInit) := ⟨rfl, rfl, rfl, by decide +kernel, rfl, by decide +kernel, by decide +kernel⟩
theorem ok_aInit {f fLe fLed C mC Pl fl fr : Addr} {fd fdLe fdLed fdr : FuncData} (F : L2.Fun K "__init__" "Algebra.__init__" sAInit f fd) (B : Blt mg) (T : AlC K C) (TC : McC K mg mC fl fr)
    (GMR : FnOk P w K mg base CX0 1 fr fdr ["self"] (spMRow mC)) (bR : Binds K fdr ["self"] [])
    (GLe : FnOk P w K mg base CX0 11 fLe fdLe ["machine"] (spLeastM mC Pl)) (DLe : Def mg K "least" fLe fdLe ["machine"])
    (mLed : Meth K C "led_on" fLed) (GLed : FnOk P w K mg base CX0 3 fLed fdLed ["self", "rows", "i"] (spLed C mC)) (bLed : Binds K fdLed ["self", "rows", "i"] []) : FnOk P w K mg base CX0 12 f fd ["self", "machine"] (spAInit C mC Pl) := by
  refine F.ok scAInit (fun vs H Q E h => ?_) (fun cdv A outer s H vs Q E hr h => ⟨_,
    (pss_cons (ps_fld (pv 0) (pe_call GLe (hr.mono (by decide)) (by rfl) DLe.g DLe.k DLe.b .nil pass0 (pa_cons (pv 1) pa_nil)) rfl)
      (pss_cons (ps_set (i := 2) scAInit.nd rfl (Or.inl rfl) (pe_meth0 (pe_fld (pv 0) rfl) TC.cl TC.mR GMR (hr.mono (by decide)) bR .nil pass0))
      (pss_cons (ps_set (i := 3) scAInit.nd rfl (Or.inl rfl) (pe_tupRg rfl (by rfl) B.tuple (prg_1 (by rfl) B.range (pe_callB call_len_seq (by rfl) B.len PySem.boot_len (pa_cons (pv 2) pa_nil)))))
      (pss_cons (ps_fld (pv 0) (pe_lst (pa_cons (pv 3) pa_nil)) rfl)
      (pss_cons (ps_fld (pv 0) (pe_lst (pa_cons pe_str pa_nil)) rfl)
      (pss_cons (ps_fld (pv 0) (pe_dispT1 (by have := hr.un; show (A.deeper _).units + 16 < _; omega) (pv 3) pe_int) rfl)
      (pss_cons (ps_fld (pv 0) (pe_lst pa_nil) rfl)
      (pss_one (ps_while PassesOwn.never (pt_cmpR op_lt (pe_callB call_len_seq (by rfl) B.len PySem.boot_len (pa_cons (pe_fld (pv 0) rfl) pa_nil)) (pe_callB call_len_seq (by rfl) B.len PySem.boot_len (pa_cons (pe_fld (pv 0) rfl) pa_nil)) (nomark _)) (pss_one (ps_expr (pe_bm PySem.F.plainAttrs_list PySem.F.slot_list_append PySem.F.type_list_append mt_append (pe_fld (pv 0) rfl) (pa_cons (pe_meth (pv 0) T.cl mLed GLed (hr.mono (by decide)) bLed .nil pass0 (pa_cons (pv 2) (pa_cons (pe_callB call_len_seq (by rfl) B.len PySem.boot_len (pa_cons (pe_fld (pv 0) rfl) pa_nil)) pa_nil))) pa_nil))))))))))))), ?_⟩)
  · obtain ⟨x, dx, ma, ls, R, rfl, _⟩ := h
    rfl
  · obtain ⟨x, dx, ma, ls, R, rfl, hx, M, hok, hl1, hl4, hnd, W, h60, tab, few, q⟩ := h
    have sz : sizeLine = 16777216 := sizeLine_eq
    refine ⟨_, rfl, ma, ls, R, rfl, M, hok, by omega, hl1, hnd, W, h60, tab, fun H1 b R' e1 n1 t1 nb M1 W1 l1 S1 rc1 mn1 => ?_⟩
    have bx : b ≠ x := fun e => by rw [e, hx] at nb; cases nb
    have hx1 := e1 _ _ hx (by intro ps z; cases z)
    refine ⟨_, rfl, x, C, dx, [], rfl, hx1, T.cl, T.n0, by show 0 < 1000; decide, ?_⟩
    have K2 : ∀ c o, c ≠ x → H1 c = some o → upd H1 x (.ins C dx (putF "base" (.ref b) [])) c = some o := fun c o n e => by rw [upd_ne n]; exact e
    have hx2 : upd H1 x (.ins C dx (putF "base" (.ref b) [])) x = some (.ins C dx (putF "base" (.ref b) [])) := upd_same
    have M2 := M1.keep bx ⟨_, _, hx1⟩ K2
    generalize upd H1 x (.ins C dx (putF "base" (.ref b) [])) = H2 at K2 hx2 M2 ⊢
    obtain ⟨mdx, mL, mvs, m1, m2, m3⟩ := id M2.obj
    refine ⟨_, rfl, x, C, dx, _, .ref b, rfl, hx2, T.cl, T.n0, (by rw [lookup_putF, if_pos rfl]), b, mdx, _, rfl, m1, mcf_no ls mL (by decide +kernel) (by decide +kernel), b, ls, R', rfl, M2, fun L xs nL hR => ?_⟩
    have gL : Grows H2 (upd H2 L (.lst xs)) := Grows.new nL
    have kL : upd H2 L (.lst xs) L = some (.lst xs) := upd_same
    have hx3 := gL _ _ hx2
    have M3 := M2.grows gL
    have hR3 := hR.grows gL
    generalize upd H2 L (.lst xs) = H3 at gL kL hx3 M3 hR3 ⊢
    have wl := hR.len
    refine ⟨_, rfl, L, xs, rfl, .inl (.inl (.inl kL)), _, rfl, RgOk.of_le (by omega) (by omega) (by omega) (by omega), fun sp nsp => ?_⟩
    have esp : rgV 0 ((xs.length : Nat) : Int) = (doW R' []).map nV := by
      unfold rgV
      rw [doW_nil, wl]
      have : (((R'.length : Nat) : Int) - 0).toNat = R'.length := by omega
      rw [this]
      exact List.map_congr_left fun i _ => congrArg V.int (by omega)
    rw [esp]
    have gS : Grows H3 (upd H3 sp (.tup ((doW R' []).map nV))) := Grows.new nsp
    have kS : upd H3 sp (.tup ((doW R' []).map nV)) sp = some (.tup ((doW R' []).map nV)) := upd_same
    have hx4 := gS _ _ hx3
    have AB : AlB (upd H3 sp (.tup ((doW R' []).map nV))) x C mC b L ls R' xs := ⟨⟨_, _, hx4⟩, M3.grows gS, bx, gS _ _ kL, hR3.grows gS⟩
    have K4 : ∀ c o, c ≠ x → H1 c = some o → upd H3 sp (.tup ((doW R' []).map nV)) c = some o := fun c o n e => gS _ _ (gL _ _ (K2 c o n e))
    generalize upd H3 sp (.tup ((doW R' []).map nV)) = H4 at kS hx4 AB K4 ⊢
    clear gL kL hx3 M3 hR3 gS nsp nL m1 m2 m3 M2 hx2 K2
    -- the fields
    refine ⟨_, rfl, by show 1 ≤ sizeLine; omega, fun d nd => ?_⟩
    have gd' : Grows H4 (upd H4 d (.lst [.ref sp])) := Grows.new nd
    refine ⟨_, rfl, x, C, dx, _, rfl, gd' _ _ hx4, T.cl, T.n1, by show 1 < 1000; decide, ?_⟩
    have dx4 : d ≠ x := fun e => by rw [e, hx4] at nd; cases nd
    have K5 : ∀ c o, c ≠ x → H4 c = some o → upd (upd H4 d (.lst [.ref sp])) x (.ins C dx (putF "doings" (.ref d) (putF "base" (.ref b) []))) c = some o := fun c o n e => by rw [upd_ne n]; exact gd' _ _ e
    have kd5 : upd (upd H4 d (.lst [.ref sp])) x (.ins C dx (putF "doings" (.ref d) (putF "base" (.ref b) []))) d = some (.lst [.ref sp]) := by rw [upd_ne dx4]; exact upd_same
    have hx5 : upd (upd H4 d (.lst [.ref sp])) x (.ins C dx (putF "doings" (.ref d) (putF "base" (.ref b) []))) x = some (.ins C dx (putF "doings" (.ref d) (putF "base" (.ref b) []))) := upd_same
    generalize upd (upd H4 d (.lst [.ref sp])) x (.ins C dx (putF "doings" (.ref d) (putF "base" (.ref b) []))) = H5 at K5 kd5 hx5 ⊢
    refine ⟨by show 1 ≤ sizeLine; omega, fun wd nwd => ?_⟩
    have gw : Grows H5 (upd H5 wd (.lst [.str ""])) := Grows.new nwd
    refine ⟨_, rfl, x, C, dx, _, rfl, gw _ _ hx5, T.cl, T.n2, by show 2 < 1000; decide, ?_⟩
    obtain ⟨wx, nw4⟩ := back_new K5 hx5 nwd
    have dw : d ≠ wd := ne_of_none kd5 nwd
    have K6 : ∀ c o, c ≠ x → H4 c = some o → upd (upd H5 wd (.lst [.str ""])) x (.ins C dx (putF "word_list" (.ref wd) (putF "doings" (.ref d) (putF "base" (.ref b) [])))) c = some o := fun c o n e => by rw [upd_ne n]; exact gw _ _ (K5 c o n e)
    have kd6 : upd (upd H5 wd (.lst [.str ""])) x (.ins C dx (putF "word_list" (.ref wd) (putF "doings" (.ref d) (putF "base" (.ref b) [])))) d = some (.lst [.ref sp]) := by rw [upd_ne dx4]; exact gw _ _ kd5
    have kw6 : upd (upd H5 wd (.lst [.str ""])) x (.ins C dx (putF "word_list" (.ref wd) (putF "doings" (.ref d) (putF "base" (.ref b) [])))) wd = some (.lst [.str ""]) := by rw [upd_ne wx]; exact upd_same
    have hx6 : upd (upd H5 wd (.lst [.str ""])) x (.ins C dx (putF "word_list" (.ref wd) (putF "doings" (.ref d) (putF "base" (.ref b) [])))) x = some (.ins C dx (putF "word_list" (.ref wd) (putF "doings" (.ref d) (putF "base" (.ref b) [])))) := upd_same
    generalize upd (upd H5 wd (.lst [.str ""])) x (.ins C dx (putF "word_list" (.ref wd) (putF "doings" (.ref d) (putF "base" (.ref b) [])))) = H6 at K6 kd6 kw6 hx6 ⊢
    refine fun N nN => ?_
    have g1 : Grows H6 (upd H6 N (.dT [])) := Grows.new nN
    obtain ⟨Nx, nN4⟩ := back_new K6 hx6 nN
    have spx : sp ≠ x := ne_of kS hx4 (by intro z; cases z)
    refine ⟨_, rfl, upd_same, sp, keyD (doW R' []), rfl, by rw [keyD_vals]; exact g1 _ _ (K6 _ _ spx kS), ?_⟩
    have g2 : Grows H6 (upd (upd H6 N (.dT [])) N (.dT [(keyD (doW R' []), .int 0)])) := fun c o e => by rw [upd_ne (ne_of_none e nN)]; exact g1 _ _ e
    refine ⟨_, rfl, x, C, dx, _, rfl, g2 _ _ hx6, T.cl, T.n3, by show 3 < 1000; decide, ?_⟩
    have K7 : ∀ c o, c ≠ x → H4 c = some o → upd (upd (upd H6 N (.dT [])) N (.dT [(keyD (doW R' []), .int 0)])) x (.ins C dx (putF "numbers_by" (.ref N) (putF "word_list" (.ref wd) (putF "doings" (.ref d) (putF "base" (.ref b) []))))) c = some o := fun c o n e => by rw [upd_ne n]; exact g2 _ _ (K6 c o n e)
    have kd7 : upd (upd (upd H6 N (.dT [])) N (.dT [(keyD (doW R' []), .int 0)])) x (.ins C dx (putF "numbers_by" (.ref N) (putF "word_list" (.ref wd) (putF "doings" (.ref d) (putF "base" (.ref b) []))))) d = some (.lst [.ref sp]) := by rw [upd_ne dx4]; exact g2 _ _ kd6
    have kw7 : upd (upd (upd H6 N (.dT [])) N (.dT [(keyD (doW R' []), .int 0)])) x (.ins C dx (putF "numbers_by" (.ref N) (putF "word_list" (.ref wd) (putF "doings" (.ref d) (putF "base" (.ref b) []))))) wd = some (.lst [.str ""]) := by rw [upd_ne wx]; exact g2 _ _ kw6
    have kN7 : NumD (upd (upd (upd H6 N (.dT [])) N (.dT [(keyD (doW R' []), .int 0)])) x (.ins C dx (putF "numbers_by" (.ref N) (putF "word_list" (.ref wd) (putF "doings" (.ref d) (putF "base" (.ref b) [])))))) N ([[]].map (doW R')) := by
      refine ⟨_, by rw [upd_ne Nx]; exact upd_same, rfl, fun e => ?_⟩
      rw [show [[]].map (doW R') = [doW R' []] from rfl]
      by_cases c : e = doW R' []
      · subst c
        rw [if_pos List.mem_cons_self, valV_pos rfl]
        simp [nV]
      · rw [if_neg (fun z => c (List.mem_singleton.mp z)), valV_neg (fun z => c (keyD_inj z).symm)]
        rfl
    have hx7 : upd (upd (upd H6 N (.dT [])) N (.dT [(keyD (doW R' []), .int 0)])) x (.ins C dx (putF "numbers_by" (.ref N) (putF "word_list" (.ref wd) (putF "doings" (.ref d) (putF "base" (.ref b) []))))) x = some (.ins C dx (putF "numbers_by" (.ref N) (putF "word_list" (.ref wd) (putF "doings" (.ref d) (putF "base" (.ref b) []))))) := upd_same
    generalize upd (upd (upd H6 N (.dT [])) N (.dT [(keyD (doW R' []), .int 0)])) x (.ins C dx (putF "numbers_by" (.ref N) (putF "word_list" (.ref wd) (putF "doings" (.ref d) (putF "base" (.ref b) []))))) = H7 at K7 kd7 kw7 kN7 hx7 ⊢
    refine ⟨by show 0 ≤ sizeLine; omega, fun t nt => ?_⟩
    have gt : Grows H7 (upd H7 t (.lst [])) := Grows.new nt
    refine ⟨_, rfl, x, C, dx, _, rfl, gt _ _ hx7, T.cl, T.n4, by show 4 < 1000; decide, ?_⟩
    obtain ⟨tx, nt4⟩ := back_new K7 hx7 nt
    have K8 : ∀ c o, c ≠ x → H4 c = some o → upd (upd H7 t (.lst [])) x (.ins C dx (alf b d wd N t)) c = some o := fun c o n e => by rw [upd_ne n]; exact gt _ _ (K7 c o n e)
    have SS : AlS H4 (upd (upd H7 t (.lst [])) x (.ins C dx (alf b d wd N t))) x C dx b d wd N t R' [[]] [] := by
      have kd8 : upd (upd H7 t (.lst [])) x (.ins C dx (alf b d wd N t)) d = some (.lst [.ref sp]) := by rw [upd_ne dx4]; exact gt _ _ kd7
      have kw8 : upd (upd H7 t (.lst [])) x (.ins C dx (alf b d wd N t)) wd = some (.lst [.str ""]) := by rw [upd_ne wx]; exact gt _ _ kw7
      refine ⟨upd_same, K8, nd, nw4, nN4, nt4, ⟨_, kd8, rfl, fun k e he => ?_⟩, ⟨_, kw8, rfl, fun k v hv => ?_⟩, kN7.keep fun o e => by rw [upd_ne Nx]; exact gt _ _ e, ⟨[], by rw [upd_ne tx]; exact upd_same, rfl, fun k e he => by cases he⟩, dw, ne_of_none kd7 nt, ne_of_none kw7 nt⟩
      · cases k with
        | zero => rw [← Option.some.inj he]; exact ⟨sp, rfl, K8 _ _ spx kS⟩
        | succ k => cases he
      · cases k with
        | zero => exact ⟨"", (Option.some.inj hv).symm, Nat.le_refl 0⟩
        | succ k => cases hv
    show _
    unfold alf at SS K8
    generalize upd (upd H7 t (.lst [])) x (.ins C dx (putF "table" (.ref t) (putF "numbers_by" (.ref N) (putF "word_list" (.ref wd) (putF "doings" (.ref d) (putF "base" (.ref b) [])))))) = H8 at SS K8 ⊢
    clear K5 kd5 hx5 gw K6 kd6 kw6 hx6 g1 g2 K7 kd7 kw7 kN7 hx7 gt
    have fewR : ∀ us : List (List Nat), (∀ u ∈ us, Lw ls.length u) → (us.map (doW R')).Nodup → us.length ≤ 24 := fun us l n => few_do W1 rc1 mn1 (few_same (fun v hv => (S1 v hv).symm) few) l n
    have G0 : GenOk ls.length R' [[]] [] := ⟨by simp, (fun u hu => by rw [List.mem_singleton.mp hu]; exact Lw.nil), rfl, fun i r h => by cases h⟩
    refine ⟨fun k σ' H' => ∃ (ws tb : List (List Nat)), k = 24 - tb.length ∧ σ' = [some (.ref x), some (.ref ma), some (.ref L), some (.ref sp)] ∧ AlS H4 H' x C dx b d wd N t R' ws tb ∧ GenOk ls.length R' ws tb ∧ tb.length ≤ ws.length,
      ⟨_, [[]], [], rfl, rfl, SS, G0, Nat.zero_le _⟩, ?_⟩
    clear SS G0
    rintro k σ' H9 ⟨ws, tb, rfl, rfl, S9, G9, le9⟩
    have w24 := fewR ws G9.lw G9.nd
    obtain ⟨vs9, kd9, td9⟩ := S9.doi
    obtain ⟨ts9, kt9, tt9⟩ := S9.tab
    have dl9 := td9.len
    have tl9 := tt9.len
    rw [List.length_map] at dl9
    refine ⟨_, rfl, x, C, dx, _, .ref t, rfl, S9.obj, T.cl, T.n4, alf_4 .., t, ts9, rfl, .inl (.inl (.inl kt9)), _, rfl, x, C, dx, _, .ref d, rfl, S9.obj, T.cl, T.n1, alf_1 .., d, vs9, rfl, .inl (.inl (.inl kd9)), _, _, rfl, rfl, _, rfl, ?_⟩
    by_cases c : tb.length < ws.length
    · refine if_pos_of (decide_eq_true (by omega)) ?_
      refine ⟨fun σ' H' => ∃ (ws' tb' : List (List Nat)), tb'.length = tb.length + 1 ∧ σ' = [some (.ref x), some (.ref ma), some (.ref L), some (.ref sp)] ∧ AlS H4 H' x C dx b d wd N t R' ws' tb' ∧ GenOk ls.length R' ws' tb' ∧ tb'.length ≤ ws'.length,
        fun σ' H' ⟨ws', tb', h1, h2, h3, h4, h5⟩ => ⟨_, by omega, ws', tb', rfl, h2, h3, h4, h5⟩, ?_⟩
      obtain ⟨w, hw⟩ : ∃ w, ws[tb.length]? = some w := ⟨_, List.getElem?_eq_getElem c⟩
      refine ⟨_, rfl, x, C, dx, _, .ref t, rfl, S9.obj, T.cl, T.n4, alf_4 .., .inl ⟨rfl, _, .inl (.inl kt9)⟩, _, rfl, x, dx, _, rfl, S9.obj, alf_no _ _ _ _ _ (by decide +kernel) (by decide +kernel) (by decide +kernel) (by decide +kernel) (by decide +kernel), _, rfl, _, rfl, x, C, dx, _, .ref t, rfl, S9.obj, T.cl, T.n4, alf_4 .., t, ts9, rfl, .inl (.inl (.inl kt9)), ?_⟩
      refine ⟨H4, x, dx, b, L, d, wd, N, t, ls, R', xs, ws, tb, tb.length, w, by rw [tl9]; rfl, AB, S9, W1, by omega, hl4, G9, hw, fewR, fun H10 ws' p r S10 G10 ex kp rl rr => ?_⟩
      obtain ⟨ts10, kt10, tt10⟩ := S10.tab
      have tl10 := tt10.len
      refine ⟨t, _, _, rfl, rfl, kt10, by omega, ?_⟩
      have G11 : GenOk ls.length R' ws' (tb ++ [r]) := ⟨G10.nd, G10.lw, G10.fst, fun i q hq => by
        by_cases ci : i < tb.length
        · rw [List.getElem?_append_left ci] at hq
          exact G10.row i q hq
        · have hi := (List.getElem?_eq_some_iff.mp hq).1
          rw [List.length_append, List.length_singleton] at hi
          have h0 : i - tb.length = 0 := by omega
          rw [List.getElem?_append_right (by omega), h0] at hq
          rw [← Option.some.inj hq, show i = tb.length by omega]
          exact ⟨rl, w, ex _ _ hw, rr⟩⟩
      have hle := (List.getElem?_eq_some_iff.mp (ex _ _ hw)).1
      exact ⟨ws', tb ++ [r], by rw [List.length_append]; rfl, rfl, S10.tabS kt10 tt10 kp, G11, by rw [List.length_append, List.length_singleton]; omega⟩
    · refine if_neg_of (by rw [decide_eq_false (by omega)]; decide) ?_
      have M9 := AB.base' S9
      refine q H9 R' ws tb (fun c o n e nt => S9.keep c o n (K4 c o n (e1 _ _ e nt))) (fun c e => ?_) ?_ ⟨dx, b, d, wd, N, t, S9.obj, M9, ⟨vs9, kd9, td9⟩, S9.num, ts9, kt9, tt9⟩ ⟨W1, by omega, G9, by omega, w24, rc1, mn1, S1⟩
      · have cx : c ≠ x := fun z => by rw [z, S9.obj] at e; cases e
        refine n1 c ?_
        cases e4 : H1 c with
        | none => rfl
        | some o => rw [S9.keep c o cx (K4 c o cx e4)] at e; cases e
      · exact tabs_keep t1 hx1 fun c o n e => S9.keep c o n (K4 c o n e)
end
end SWL
set_option Elab.async false
set_option linter.all false
set_option maxRecDepth 100000
set_option maxHeartbeats 8000000
namespace SWL
open PySem PySem.Spec PyProof.Rows L2 LamX NdefX
/-! Algebra: what is read of it -/
def spALen (C mC : Addr) : Sp := fun vs H Q _ => ∃ (x : Addr) (ls : Str) (R : List Rw) (ws tb : List (List Nat)), vs = [.ref x] ∧ AlgAt H x C mC ls R ws tb ∧ Q (.int ((ws.length : Nat) : Int)) H
def spANeed (C mC : Addr) : Sp := fun vs H Q _ => ∃ (x : Addr) (ls : Str) (R : List Rw) (ws tb : List (List Nat)) (i : Nat), vs = [.ref x, nV i] ∧ AlgAt H x C mC ls R ws tb ∧ i < ws.length ∧ Q .non H
def spALet (C mC : Addr) : Sp := fun vs H Q _ => ∃ (x : Addr) (ls : Str) (R : List Rw) (ws tb : List (List Nat)), vs = [.ref x] ∧ AlgAt H x C mC ls R ws tb ∧ Q (.str ls) H
def spAElem (C mC : Addr) : Sp := fun vs H Q _ => ∃ (x : Addr) (ls : Str) (R : List Rw) (ws tb : List (List Nat)) (c : Nat), vs = [.ref x, .str (sg c)] ∧ AlgAt H x C mC ls R ws tb ∧ GenOk ls.length R ws tb ∧ ws.length ≤ tb.length ∧ ls.length ≤ 4 ∧ ls.cps.toList.Nodup ∧ c ∈ ls.cps.toList ∧
  ∀ (H' : Hp) (k : Nat) (w' : List Nat), Grows H H' → ws[k]? = some w' → doW R w' = doW R [ls.cps.toList.idxOf c] → Q (nV k) H'
def mulI (R : List Rw) (ws : List (List Nat)) (u w : List Nat) : Nat := (ws.map (doW R)).idxOf (doW R (u ++ w))
def spAProd (C mC : Addr) : Sp := fun vs H Q _ => ∃ (x : Addr) (ls : Str) (R : List Rw) (ws tb : List (List Nat)) (i j : Nat) (u w : List Nat), vs = [.ref x, nV i, nV j] ∧ AlgAt H x C mC ls R ws tb ∧ WfR ls.length R ∧ R.length ≤ 60 ∧ ws[i]? = some u ∧ ws[j]? = some w ∧ doW R (u ++ w) ∈ ws.map (doW R) ∧
  ∀ H', Grows H H' → Q (nV (mulI R ws u w)) H'
abbrev NEl : List Str := ["self", "word", "letters", "found", "letter"]
abbrev NPr : List Str := ["self", "i", "j", "first", "second", "stand"]
section
variable {P : Program} {w : World} {K : PySem.W.Frag} {mg : Str → Option Value} {base : Heap}
theorem scALen : FnScope ["self"] ["self"] (defScope sALen) := ⟨rfl, rfl, rfl, by decide +kernel, rfl, by decide +kernel, by decide +kernel⟩
theorem ok_aLen {f C mC : Addr} {fd : FuncData} (F : L2.Fun K "__len__" "Algebra.__len__" sALen f fd) (B : Blt mg) (T : AlC K C) : FnOk P w K mg base CX0 1 f fd ["self"] (spALen C mC) := by
  refine F.ok scALen (fun vs H Q E h => ?_) (fun cdv A outer s H vs Q E hr h => ⟨_,
    (pss_one (ps_ret (pe_callB call_len_seq (by rfl) B.len PySem.boot_len (pa_cons (pe_fld (pv 0) rfl) pa_nil)))), ?_⟩)
  · obtain ⟨_, _, _, _, _, rfl, _⟩ := h
    rfl
  · obtain ⟨x, ls, R, ws, tb, rfl, M, q⟩ := h
    obtain ⟨dx, b, d, wl, nb, t, h1, h2, ⟨v1, a1, a2⟩, h3, _⟩ := M.at_
    have l := a2.len
    rw [List.length_map] at l
    exact ⟨_, rfl, x, C, dx, _, .ref d, rfl, h1, T.cl, T.n1, alf_1 .., d, v1, rfl, .inl (.inl (.inl a1)), by rw [l]; exact q⟩
theorem scANeed : FnScope ["self", "thing"] ["self", "thing"] (defScope sANeed) := ⟨rfl, rfl, rfl, by decide +kernel, rfl, by decide +kernel, by decide +kernel⟩
theorem ok_aNeed {f fN C mC : Addr} {fd fdN : FuncData} (F : L2.Fun K "need_element" "Algebra.need_element" sANeed f fd) (B : Blt mg) (T : AlC K C) (GN : FnOk P w K mg base CX0 1 fN fdN ["thing", "least", "most"] (spIsNum K)) (DN : Def mg K "is_number" fN fdN ["thing", "least", "most"]) :
    FnOk P w K mg base CX0 2 f fd ["self", "thing"] (spANeed C mC) := by
  refine F.ok scANeed (fun vs H Q E h => ?_) (fun cdv A outer s H vs Q E hr h => ⟨_,
    (pss_one (ps_if (pt_not (pt_truth (pe_call GN (hr.mono (by decide)) (by rfl) DN.g DN.k DN.b .nil pass0 (pa_cons (pv 1) (pa_cons pe_int (pa_cons (pe_op op_sub (pe_callB call_len_seq (by rfl) B.len PySem.boot_len (pa_cons (pe_fld (pv 0) rfl) pa_nil)) pe_int) pa_nil)))) (by intro _; rfl))) pss_no pss_nil)), ?_⟩)
  · obtain ⟨_, _, _, _, _, _, rfl, _⟩ := h
    rfl
  · obtain ⟨x, ls, R, ws, tb, i, rfl, M, hi, q⟩ := h
    obtain ⟨dx, b, d, wl, nb, t, h1, h2, ⟨v1, a1, a2⟩, h3, _⟩ := M.at_
    have l := a2.len
    rw [List.length_map] at l
    refine ⟨_, rfl, _, rfl, x, C, dx, _, .ref d, rfl, h1, T.cl, T.n1, alf_1 .., d, v1, rfl, .inl (.inl (.inl a1)), _, _, rfl, rfl, nV i, 0, _, rfl, .inl ⟨i, rfl, ?_⟩⟩
    rw [decide_eq_true (by omega)]
    exact ⟨true, rfl, if_neg_of (by decide) q⟩
theorem scALet : FnScope ["self"] ["self"] (defScope sALet) := ⟨rfl, rfl, rfl, by decide +kernel, rfl, by decide +kernel, by decide +kernel⟩
theorem ok_aLet {f C mC fl fr : Addr} {fd fdl : FuncData} (F : L2.Fun K "letters" "Algebra.letters" sALet f fd) (T : AlC K C) (TC : McC K mg mC fl fr)
    (GML : FnOk P w K mg base CX0 1 fl fdl ["self"] (spMLet mC)) (bL : Binds K fdl ["self"] []) : FnOk P w K mg base CX0 2 f fd ["self"] (spALet C mC) := by
  refine F.ok scALet (fun vs H Q E h => ?_) (fun cdv A outer s H vs Q E hr h => ⟨_,
    (pss_one (ps_ret (pe_meth0 (pe_fld (pv 0) rfl) TC.cl TC.mL GML (hr.mono (by decide)) bL .nil pass0))), ?_⟩)
  · obtain ⟨_, _, _, _, _, rfl, _⟩ := h
    rfl
  · obtain ⟨x, ls, R, ws, tb, rfl, M, q⟩ := h
    obtain ⟨dx, b, d, wl, nb, t, h1, h2, _⟩ := M.at_
    obtain ⟨mdx, mL, mvs, m1, m2, m3⟩ := id h2.obj
    exact ⟨_, rfl, x, C, dx, _, .ref b, rfl, h1, T.cl, T.n0, alf_0 .., b, mdx, _, rfl, m1, mcf_no ls mL (by decide +kernel) (by decide +kernel), b, ls, R, rfl, h2, q⟩
theorem scAElem : FnScope NEl ["self", "word"] (defScope sAElem) := ⟨rfl, rfl, rfl, by decide +kernel, rfl, by decide +kernel, by decide +kernel⟩
theorem ok_aElem {f fW C mC fl fr CW : Addr} {fd fdl fdW : FuncData} (F : L2.Fun K "element" "Algebra.element" sAElem f fd) (B : Blt mg) (T : AlC K C) (TC : McC K mg mC fl fr)
    (GML : FnOk P w K mg base CX0 1 fl fdl ["self"] (spMLet mC)) (bL : Binds K fdl ["self"] [])
    (GW : FnOk P w K mg base (L2.CX P w) 3 fW fdW ["letters", "thing", "most"] (spNeedW K CW)) (DW : DefW mg K "need_word" fW fdW ["letters", "thing", "most"]) : FnOk P w K mg base CX0 4 f fd ["self", "word"] (spAElem C mC) := by
  obtain ⟨dsW, vdW, bdW⟩ := DW.b
  refine F.ok scAElem (fun vs H Q E h => ?_) (fun cdv A outer s H vs Q E hr h => ⟨_,
    (pss_cons (ps_set (i := 2) scAElem.nd rfl (Or.inl rfl) (pe_meth0 (pe_fld (pv 0) rfl) TC.cl TC.mL GML (hr.mono (by decide)) bL .nil pass0))
      (pss_cons (ps_expr (pe_call GW (hr.mono (by decide)) (by rfl) DW.g DW.k bdW vdW (passE0 rfl rfl) (pa_cons (pv 2) (pa_cons (pv 1) pa_nil))))
      (pss_cons (ps_set (i := 3) scAElem.nd rfl (Or.inl rfl) pe_int)
      (pss_cons (ps_for PassesOwn.never rfl (pi_str (pv 1)) (pg_name (i := 4) scAElem.nd rfl (Or.inl rfl)) (pss_one (ps_set (i := 3) scAElem.nd rfl (Or.inl rfl) (pe_ix ix_tup (pe_ix ix_list (pe_fld (pv 0) rfl) (pv 3) (fun _ _ => rfl)) (pe_m1 PySem.F.slot_str_index PySem.F.type_str_index mt_index (pv 2) (pv 4)) (fun _ _ => rfl)))))
      (pss_one (ps_ret (pv 3))))))), ?_⟩)
  · obtain ⟨_, _, _, _, _, _, rfl, _⟩ := h
    rfl
  · obtain ⟨x, ls, R, ws, tb, c, rfl, M, G, hwt, hl4, nd, hc, q⟩ := h
    have sz : sizeLine = 16777216 := sizeLine_eq
    obtain ⟨dx, b, d, wl, nb, t, h1, h2, _, _, ⟨v2, b1, b2⟩⟩ := id M.at_
    obtain ⟨mdx, mL, mvs, m1, m2, m3⟩ := id h2.obj
    refine ⟨_, rfl, x, C, dx, _, .ref b, rfl, h1, T.cl, T.n0, alf_0 .., b, mdx, _, rfl, m1, mcf_no ls mL (by decide +kernel) (by decide +kernel), b, ls, R, rfl, h2, ?_⟩
    have lc : (sg c).length = 1 := rfl
    have hz : okWord ls (sg c) 20000 = true := by
      unfold okWord
      rw [Bool.and_eq_true, List.all_eq_true]
      exact ⟨decide_eq_true (by rw [lc]; decide), fun a ha => by
        have e : (sg c).cps.toList = [c] := rfl
        rw [e] at ha
        rw [List.mem_singleton.mp ha]
        exact decide_eq_true hc⟩
    refine ⟨_, rfl, _, rfl, ls, _, _, rfl, .inl ⟨sg c, rfl, by omega, fun H1 g1 => ⟨fun _ => ?_, fun c => by rw [hz] at c; cases c⟩⟩⟩
    have il := List.idxOf_lt_length_of_mem hc
    rw [cut_len] at il
    have h0 := (List.getElem?_eq_some_iff.mp G.fst).1
    have ht : tb[0]? = some tb[0] := List.getElem?_eq_getElem (by omega)
    obtain ⟨r1, u, u1, u2⟩ := G.row 0 _ ht
    rw [G.fst] at u1
    obtain rfl := Option.some.inj u1
    obtain ⟨k, w', k1, k2, k3⟩ := u2 _ il
    obtain ⟨a, a1, a2⟩ := b2.at_ 0 _ ht
    refine ⟨_, rfl, sg c, rfl, for_it walk_str (fun j σ H' => H' = H1 ∧ ((j = 0 ∧ σ = [some (.ref x), some (.str (sg c)), some (.str ls), some (.int 0), none]) ∨ (j = 1 ∧ ∃ v4, σ = [some (.ref x), some (.str (sg c)), some (.str ls), some (nV k), v4]))) ⟨rfl, .inl ⟨rfl, rfl⟩⟩ (fun _ _ _ _ _ => trivial) ?_ ?_⟩
    · rintro j y σ H2 H3 hj ⟨rfl, hh⟩ ⟨rfl, ch, hch, rfl⟩
      have hj : j < 1 := hj
      obtain rfl : j = 0 := by omega
      obtain rfl : c = ch := Option.some.inj hch
      have hh : σ = [some (.ref x), some (.str (sg c)), some (.str ls), some (.int 0), none] := by
        rcases hh with ⟨_, h⟩ | ⟨h, _⟩
        · exact h
        · exact absurd h (by decide)
      subst hh
      refine ⟨_, rfl, x, C, dx, _, .ref t, rfl, g1 _ _ h1, T.cl, T.n4, alf_4 .., _, rfl, t, v2, _, .ref a, rfl, rfl, .inl (.inl (g1 _ _ b1)), atI_nat (j := 0) a1, ?_⟩
      refine ⟨_, rfl, ⟨ls, rfl⟩, _, rfl, ls, c, rfl, rfl, hc, fun i hi hn => ?_⟩
      have ei : i = ls.cps.toList.idxOf c := by
        have h1 := List.getElem?_eq_some_iff.mp hi
        rw [← h1.2]
        exact (nd.idxOf_getElem i h1.1).symm
      subst ei
      exact ⟨a, _, _, _, rfl, rfl, .inl (.inl (g1 _ _ a2)), atI_nat (j := ls.cps.toList.idxOf c) (by rw [List.getElem?_map, k1]; rfl), rfl, .inr ⟨rfl, _, rfl⟩⟩
    · rintro σ H2 ⟨rfl, hh⟩
      rcases hh with ⟨h, _⟩ | ⟨_, v4, rfl⟩
      · exact absurd h (by show ¬ (1 : Nat) = 0; decide)
      · exact ⟨_, rfl, q _ k w' g1 k2 k3⟩
theorem scAProd : FnScope NPr ["self", "i", "j"] (defScope sAProd) := ⟨rfl, rfl, rfl, by decide +kernel, rfl, by decide +kernel, by decide +kernel⟩
theorem ok_aProd {f C mC : Addr} {fd : FuncData} (F : L2.Fun K "product" "Algebra.product" sAProd f fd) (B : Blt mg) (T : AlC K C) : FnOk P w K mg base CX0 1 f fd ["self", "i", "j"] (spAProd C mC) := by
  refine F.ok scAProd (fun vs H Q E h => ?_) (fun cdv A outer s H vs Q E hr h => ⟨_,
    (pss_cons (ps_asg (pe_tup (pa_cons (pe_ix ix_list (pe_fld (pv 0) rfl) (pv 1) (fun _ _ => rfl)) (pa_cons (pe_ix ix_list (pe_fld (pv 0) rfl) (pv 2) (fun _ _ => rfl)) pa_nil))) (pg_tup rfl (pgs_cons (pg_name (i := 3) scAProd.nd rfl (Or.inl rfl)) (pgs_cons (pg_name (i := 4) scAProd.nd rfl (Or.inr rfl)) pgs_nil))))
      (pss_one (ps_ret (pe_dget (hu_of hr) (pe_fld (pv 0) rfl) (pe_callTy call_tuple_of (by rfl) B.tuple (by decide +kernel) (pa_cons (pe_lc (own := [("stand", 5)]) (g := (gName 5)) (tt := tYes) (te := (tOp (rIxT K) (tVar 4) (tVar 5))) rfl scAProd.nd (pi_tup (pv 3)) (blkOk_by (N := NPr) (sc := defScope sAProd) (by decide +kernel)) (fun _ _ _ _ _ => (pg_name (i := 5) scAProd.nd rfl (Or.inl rfl))) (fun _ _ _ _ _ => pts_nil) (fun _ _ _ _ _ => (pe_ix ix_tup (pv 4) (pv 5) (fun _ _ => rfl)))) pa_nil)) (fun _ _ => rfl))))), ?_⟩)
  · obtain ⟨_, _, _, _, _, _, _, _, _, rfl, _⟩ := h
    rfl
  · obtain ⟨x, ls, R, ws, tb, i, j, u, w, rfl, M, W, h60, hu, hw, hm, q⟩ := h
    have sz : sizeLine = 16777216 := sizeLine_eq
    obtain ⟨dx, b, d, wl, nb, t, h1, h2, ⟨v1, a1, a2⟩, h3, _⟩ := id M.at_
    have eu : (ws.map (doW R))[i]? = some (doW R u) := by rw [List.getElem?_map, hu]; rfl
    have ew : (ws.map (doW R))[j]? = some (doW R w) := by rw [List.getElem?_map, hw]; rfl
    obtain ⟨pu, u1, u2⟩ := a2.at_ _ _ eu
    obtain ⟨pw', w1, w2⟩ := a2.at_ _ _ ew
    refine ⟨_, rfl, x, C, dx, _, .ref d, rfl, h1, T.cl, T.n1, alf_1 .., _, rfl, d, v1, _, .ref pu, rfl, rfl, .inl (.inl a1), atI_nat (j := i) u1, _, rfl, x, C, dx, _, .ref d, rfl, h1, T.cl, T.n1, alf_1 .., _, rfl, d, v1, _, .ref pw', rfl, rfl, .inl (.inl a1), atI_nat (j := j) w1, by show 2 ≤ sizeLine; omega, fun p np => ?_⟩
    have gp : Grows H (upd H p (.tup [.ref pu, .ref pw'])) := Grows.new np
    refine ⟨p, _, rfl, .inl (.inl upd_same), rfl, _, _, rfl, _, _, rfl, rfl, ?_⟩
    have h1 := gp _ _ h1
    have u2 := gp _ _ u2
    have w2 := gp _ _ w2
    have h3 := h3.keep fun o e => gp _ _ e
    have M := M.grows gp
    generalize upd H p (.tup [.ref pu, .ref pw']) = H1 at gp h1 u2 w2 h3 M ⊢
    refine ⟨_, rfl, x, C, dx, _, .ref nb, rfl, h1, T.cl, T.n3, alf_3 .., _, rfl, pu, rfl, ⟨_, .inl (.inl u2)⟩, fun D2 nD2 => ?_⟩
    refine comp1 (I := doW R u) (gv := nV) (i := 5) (tt := tYes) (te := (tOp (rIxT K) (tVar 4) (tVar 5))) (G := fun H => SqT K H pu ((doW R u).map nV)) (by have := walk_tup (K := K) (a := pu) (xs := (doW R u).map nV); rw [List.length_map] at this; exact this) (fun _ => true) (fun s => nV (runR R s w)) nD2 (fun H' g => .inl (.inl (g _ _ u2)))
      (by rw [doW_len]; omega) (fun s H k _ g hk => hk H (Grows.refl H)) (fun s H' Q hs _ g hq => ?_) (fun H5 g5 kD2 => ?_)
    · exact ⟨_, rfl, _, rfl, pw', _, _, _, rfl, rfl, .inl (.inl (g _ _ w2)), atI_nat (j := s) (by rw [List.getElem?_map, doW_at (doW_lt W s hs)]; rfl), hq H' (Grows.refl H')⟩
    rw [filter_yes] at kD2
    have eD : (doW R u).map (fun s => nV (runR R s w)) = (doW R (u ++ w)).map nV := by
      rw [doW_app W]
      unfold cmp
      rw [List.map_map]
      exact List.map_congr_left fun s hs => congrArg nV (doW_gd (doW_lt W s hs)).symm
    rw [eD] at kD2
    refine ⟨D2, _, rfl, .inl ⟨.inl (.inl kD2), fun p2 np2 => ?_⟩⟩
    have gq := g5.trans (Grows.new (o := .tup ((doW R (u ++ w)).map nV)) np2)
    have kp : upd H5 p2 (.tup ((doW R (u ++ w)).map nV)) p2 = some (.tup ((keyD (doW R (u ++ w))).map kV)) := by rw [keyD_vals]; exact upd_same
    obtain ⟨kvs, n1, n2, n3⟩ := h3
    refine ⟨nb, nV (mulI R ws u w), rfl, ?_, q _ (gp.trans gq)⟩
    have := DGet.t (gq _ _ n1) kp
    rw [n3, if_pos hm] at this
    exact this
theorem scATimes : FnScope ["self", "i", "j"] ["self", "i", "j"] (defScope sATimes) := ⟨rfl, rfl, rfl, by decide +kernel, rfl, by decide +kernel, by decide +kernel⟩
theorem ok_aTimes {f fN fP C mC : Addr} {fd fdN fdP : FuncData} (F : L2.Fun K "times" "Algebra.times" sATimes f fd) (T : AlC K C)
    (mN : Meth K C "need_element" fN) (GN : FnOk P w K mg base CX0 2 fN fdN ["self", "thing"] (spANeed C mC)) (bN : Binds K fdN ["self", "thing"] [])
    (mP : Meth K C "product" fP) (GP : FnOk P w K mg base CX0 1 fP fdP ["self", "i", "j"] (spAProd C mC)) (bP : Binds K fdP ["self", "i", "j"] []) : FnOk P w K mg base CX0 3 f fd ["self", "i", "j"] (spAProd C mC) := by
  refine F.ok scATimes (fun vs H Q E h => ?_) (fun cdv A outer s H vs Q E hr h => ⟨_,
    (pss_cons (ps_expr (pe_meth (pv 0) T.cl mN GN (hr.mono (by decide)) bN .nil pass0 (pa_cons (pv 1) pa_nil)))
      (pss_cons (ps_expr (pe_meth (pv 0) T.cl mN GN (hr.mono (by decide)) bN .nil pass0 (pa_cons (pv 2) pa_nil)))
      (pss_one (ps_ret (pe_meth (pv 0) T.cl mP GP (hr.mono (by decide)) bP .nil pass0 (pa_cons (pv 1) (pa_cons (pv 2) pa_nil))))))), ?_⟩)
  · obtain ⟨_, _, _, _, _, _, _, _, _, rfl, _⟩ := h
    rfl
  · obtain ⟨x, ls, R, ws, tb, i, j, u, w, rfl, M, W, h60, hu, hw, hm, q⟩ := h
    obtain ⟨dx, b, d, wl, nb, t, h1, _⟩ := id M.at_
    have no : ∀ {m : Str}, (¬ m = "base" ∧ ¬ m = "doings" ∧ ¬ m = "word_list" ∧ ¬ m = "numbers_by" ∧ ¬ m = "table") → (alf b d wl nb t).lookup m = none := fun h => alf_no _ _ _ _ _ h.1 h.2.1 h.2.2.1 h.2.2.2.1 h.2.2.2.2
    refine ⟨_, rfl, x, dx, _, rfl, h1, no (by decide +kernel), _, rfl, x, ls, R, ws, tb, i, rfl, M, (List.getElem?_eq_some_iff.mp hu).1, ?_⟩
    refine ⟨_, rfl, x, dx, _, rfl, h1, no (by decide +kernel), _, rfl, x, ls, R, ws, tb, j, rfl, M, (List.getElem?_eq_some_iff.mp hw).1, ?_⟩
    exact ⟨_, rfl, x, dx, _, rfl, h1, no (by decide +kernel), _, rfl, _, rfl, x, ls, R, ws, tb, i, j, u, w, rfl, M, W, h60, hu, hw, hm, q⟩
end
end SWL
set_option Elab.async false
set_option linter.all false
set_option maxRecDepth 100000
set_option maxHeartbeats 8000000
namespace SWL
open PySem PySem.Spec PyProof.Rows L2 LamX NdefX
/-! made_of: what is made of an element -/
structure AlM (ls : Str) (R : List Rw) (ws tb : List (List Nat)) : Prop where
  wf : WfR ls.length R
  few : R.length ≤ 60
  gen : GenOk ls.length R ws tb
  whole : ws.length ≤ tb.length
  cnt : ws.length ≤ 24
  l4 : ls.length ≤ 4
  nd : ls.cps.toList.Nodup
theorem AlM.el {ls : Str} {R : List Rw} {ws tb : List (List Nat)} (M : AlM ls R ws tb) : Elems ls.length R (ws.map (doW R)) := M.gen.elems M.wf M.whole
theorem AlM.lw {ls : Str} {R : List Rw} {ws tb : List (List Nat)} (M : AlM ls R ws tb) {i : Nat} {u : List Nat} (h : ws[i]? = some u) : Lw ls.length u := M.gen.lw u (List.mem_of_getElem? h)
theorem AlM.mul {ls : Str} {R : List Rw} {ws tb : List (List Nat)} (M : AlM ls R ws tb) {u w : List Nat} (hu : Lw ls.length u) (hw : Lw ls.length w) : doW R (u ++ w) ∈ ws.map (doW R) ∧ ∃ w', ws[mulI R ws u w]? = some w' ∧ doW R w' = doW R (u ++ w) := by
  have hm := M.el.all _ (hu.app hw)
  have e := idxD hm
  refine ⟨hm, ?_⟩
  unfold mulI
  rw [List.getElem?_map] at e
  cases h : ws[(ws.map (doW R)).idxOf (doW R (u ++ w))]? with
  | none => rw [h] at e; cases e
  | some w' => rw [h] at e; exact ⟨w', rfl, Option.some.inj e⟩
theorem AlM.inj {ls : Str} {R : List Rw} {ws tb : List (List Nat)} (M : AlM ls R ws tb) {i j : Nat} {u w : List Nat} (hu : ws[i]? = some u) (hw : ws[j]? = some w) (e : doW R u = doW R w) : i = j := by
  have e1 : (ws.map (doW R))[i]? = some (doW R u) := by rw [List.getElem?_map, hu]; rfl
  have e2 : (ws.map (doW R))[j]? = some (doW R u) := by rw [List.getElem?_map, hw, e]; rfl
  have h1 := List.getElem?_eq_some_iff.mp e1
  have h2 := List.getElem?_eq_some_iff.mp e2
  exact (List.getElem_inj M.gen.nd).mp (h1.2.trans h2.2.symm)
/-- among these, by its word -/
def InF (R : List Rw) (ws : List (List Nat)) (F : List Nat) (w : List Nat) : Prop := ∃ p ∈ F, ∃ w', ws[p]? = some w' ∧ doW R w' = doW R w
theorem InF.more {R : List Rw} {ws : List (List Nat)} {F F' : List Nat} {w : List Nat} (h : InF R ws F w) (k : ∀ p ∈ F, p ∈ F') : InF R ws F' w := let ⟨p, h1, h2⟩ := h; ⟨p, k p h1, h2⟩
structure MaOk (m : Nat) (R : List Rw) (ws : List (List Nat)) (s : Nat) (wS : List Nat) (F : List Nat) (U : Nat → Prop) : Prop where
  nd : F.Nodup
  lt : ∀ i ∈ F, i < ws.length
  fst : s ∈ F
  of : ∀ i ∈ F, ∀ u, ws[i]? = some u → ∃ a c, Lw m a ∧ Lw m c ∧ doW R u = doW R (a ++ wS ++ c)
  cl : ∀ i ∈ F, U i ∨ ∀ u, ws[i]? = some u → ∀ k, k < m → InF R ws F (u ++ [k]) ∧ InF R ws F ([k] ++ u)
theorem MaOk.few {m : Nat} {R : List Rw} {ws : List (List Nat)} {s : Nat} {wS F : List Nat} {U : Nat → Prop} (M : MaOk m R ws s wS F U) : F.length ≤ ws.length := nodup_below _ _ M.nd M.lt
theorem MaOk.weak {m : Nat} {R : List Rw} {ws : List (List Nat)} {s : Nat} {wS F : List Nat} {U U' : Nat → Prop} (M : MaOk m R ws s wS F U) (h : ∀ i ∈ F, U i → U' i ∨ ∀ u, ws[i]? = some u → ∀ k, k < m → InF R ws F (u ++ [k]) ∧ InF R ws F ([k] ++ u)) : MaOk m R ws s wS F U' :=
  ⟨M.nd, M.lt, M.fst, M.of, fun i hi => (M.cl i hi).elim (h i hi) .inr⟩
theorem MaOk.add {m : Nat} {R : List Rw} {ws : List (List Nat)} {s : Nat} {wS F : List Nat} {U : Nat → Prop} (M : MaOk m R ws s wS F U) {j : Nat} {v : List Nat} (hj : ws[j]? = some v) (hn : j ∉ F) (ho : ∃ a c, Lw m a ∧ Lw m c ∧ doW R v = doW R (a ++ wS ++ c)) : MaOk m R ws s wS (F ++ [j]) (fun q => U q ∨ q = j) := by
  refine ⟨?_, fun i hi => ?_, List.mem_append_left _ M.fst, fun i hi u hu => ?_, fun i hi => ?_⟩
  · rw [List.nodup_append]
    refine ⟨M.nd, by simp, fun a ha b hb => ?_⟩
    rw [List.mem_singleton.mp hb]
    exact fun e => hn (e ▸ ha)
  · rcases List.mem_append.mp hi with h | h
    · exact M.lt i h
    · rw [List.mem_singleton.mp h]; exact (List.getElem?_eq_some_iff.mp hj).1
  · rcases List.mem_append.mp hi with h | h
    · exact M.of i h u hu
    · rw [List.mem_singleton.mp h, hj] at hu
      rw [← Option.some.inj hu]
      exact ho
  · rcases List.mem_append.mp hi with h | h
    · rcases M.cl i h with c | c
      · exact .inl (.inl c)
      · exact .inr fun u hu k hk => let ⟨a, b⟩ := c u hu k hk; ⟨a.more fun p hp => List.mem_append_left _ hp, b.more fun p hp => List.mem_append_left _ hp⟩
    · exact .inl (.inr (List.mem_singleton.mp h))
theorem MaOk.whole {ls : Str} {R : List Rw} {ws tb : List (List Nat)} {s : Nat} {wS F : List Nat} (A : AlM ls R ws tb) (hs : ws[s]? = some wS) (M : MaOk ls.length R ws s wS F (fun _ => False)) {i : Nat} {u : List Nat} (hu : ws[i]? = some u) :
    i ∈ F ↔ ∃ a c, Lw ls.length a ∧ Lw ls.length c ∧ doW R u = doW R (a ++ wS ++ c) := by
  refine ⟨fun h => M.of i h u hu, fun ⟨a, c, la, lc, e⟩ => ?_⟩
  have cl : ∀ p ∈ F, ∀ w', ws[p]? = some w' → ∀ k, k < ls.length → InF R ws F (w' ++ [k]) ∧ InF R ws F ([k] ++ w') := fun p hp => (M.cl p hp).elim False.elim id
  have g1 : ∀ r : List Nat, Lw ls.length r.reverse → InF R ws F (wS ++ r.reverse) := by
    intro r
    induction r with
    | nil => exact fun _ => ⟨s, M.fst, wS, hs, by rw [List.reverse_nil, List.append_nil]⟩
    | cons k r ih =>
      intro hr
      rw [List.reverse_cons] at hr ⊢
      obtain ⟨p, p1, w', p2, p3⟩ := ih fun j hj => hr j (List.mem_append_left _ hj)
      obtain ⟨q, q1, w2, q2, q3⟩ := (cl p p1 w' p2 k (hr k (List.mem_append_right _ List.mem_cons_self))).1
      exact ⟨q, q1, w2, q2, by rw [q3, ← List.append_assoc, doW_cong A.wf p3 rfl]⟩
  have g2 : ∀ a : List Nat, Lw ls.length a → InF R ws F (a ++ (wS ++ c)) := by
    intro a
    induction a with
    | nil => exact fun _ => by have := g1 c.reverse (by rw [List.reverse_reverse]; exact lc); rwa [List.reverse_reverse] at this
    | cons k a ih =>
      intro hr
      obtain ⟨p, p1, w', p2, p3⟩ := ih fun j hj => hr j (List.mem_cons_of_mem _ hj)
      obtain ⟨q, q1, w2, q2, q3⟩ := (cl p p1 w' p2 k (hr k List.mem_cons_self)).2
      refine ⟨q, q1, w2, q2, ?_⟩
      rw [q3]
      exact doW_cong A.wf (u := [k]) (u' := [k]) rfl p3
  obtain ⟨p, p1, w', p2, p3⟩ := g2 a la
  rw [← List.append_assoc, ← e] at p3
  rw [← A.inj p2 hu p3]
  exact p1
def IntD (H : Hp) (N : Addr) (F : List Nat) : Prop := ∃ kvs : List (L2.Key × V), H N = some (.dK kvs) ∧ kvs.length = F.length ∧ ∀ j : Nat, valV kvs (.inl ((j : Nat) : Int)) = if j ∈ F then some (.bl true) else none
theorem IntD.keep {H H' : Hp} {N : Addr} {F : List Nat} (g : ∀ o, H N = some o → H' N = some o) (h : IntD H N F) : IntD H' N F := let ⟨kvs, h1, h2⟩ := h; ⟨kvs, g _ h1, h2⟩
theorem IntD.put {H : Hp} {N : Addr} {F : List Nat} {s : Nat} {kvs : List (L2.Key × V)} (h1 : kvs.length = F.length) (h2 : ∀ j : Nat, valV kvs (.inl ((j : Nat) : Int)) = if j ∈ F then some (.bl true) else none) (hs : s ∉ F) : IntD (upd H N (.dK (putK kvs (.inl ((s : Nat) : Int)) (.bl true)))) N (F ++ [s]) := by
  have e : valV kvs (.inl ((s : Nat) : Int)) = none := by rw [h2, if_neg hs]
  refine ⟨_, upd_same, by rw [putK_new _ e, List.length_append, List.length_append, h1]; rfl, fun t => ?_⟩
  rw [valV_put, h2]
  by_cases c : t = s
  · subst c
    rw [if_pos rfl, if_pos (List.mem_append_right _ List.mem_cons_self)]
  · rw [if_neg (fun z => c (by have := Sum.inl.inj z; omega))]
    by_cases d : t ∈ F
    · rw [if_pos d, if_pos (List.mem_append_left _ d)]
    · rw [if_neg d, if_neg (fun z => by
        rcases List.mem_append.mp z with h | h
        · exact d h
        · exact c (List.mem_singleton.mp h))]
structure MaH (H H' : Hp) (N L : Addr) (F line : List Nat) : Prop where
  gr : Grows H H'
  num : IntD H' N F
  ln : H' L = some (.lst (line.map nV))
theorem MaH.grows {H H' H2 : Hp} {N L : Addr} {F line : List Nat} (M : MaH H H' N L F line) (g : Grows H' H2) : MaH H H2 N L F line := ⟨M.gr.trans g, M.num.keep fun o e => g _ _ e, g _ _ M.ln⟩
theorem AlgAt.ob {H : Hp} {x C mC : Addr} {ls : Str} {R : List Rw} {ws tb : List (List Nat)} (M : AlgAt H x C mC ls R ws tb) : ∃ dx fs, H x = some (.ins C dx fs) ∧ ∀ m : Str, (¬ m = "base" ∧ ¬ m = "doings" ∧ ¬ m = "word_list" ∧ ¬ m = "numbers_by" ∧ ¬ m = "table") → fs.lookup m = none := by
  obtain ⟨dx, b, d, wl, nb, t, h1, _⟩ := M.at_
  exact ⟨dx, _, h1, fun m h => alf_no _ _ _ _ _ h.1 h.2.1 h.2.2.1 h.2.2.2.1 h.2.2.2.2⟩
def spMade (C mC : Addr) : Sp := fun vs H Q _ => ∃ (x : Addr) (ls : Str) (R : List Rw) (ws tb : List (List Nat)) (s : Nat) (wS : List Nat), vs = [.ref x, nV s] ∧ AlgAt H x C mC ls R ws tb ∧ AlM ls R ws tb ∧ ws[s]? = some wS ∧
  ∀ (H' : Hp) (p : Addr) (F : List Nat), Grows H H' → IntD H' p F → (∀ (i : Nat) (u : List Nat), ws[i]? = some u → (i ∈ F ↔ ∃ a c, Lw ls.length a ∧ Lw ls.length c ∧ doW R u = doW R (a ++ wS ++ c))) → Q (.ref p) H'
abbrev NMd : List Str := ["algebra", "s", "letters", "found", "line", "i", "x", "j", "letter"]
section
variable {P : Program} {w : World} {K : PySem.W.Frag} {mg : Str → Option Value} {base : Heap}
theorem scMade : FnScope NMd ["algebra", "s"] (defScope sMadeOf) := ⟨rfl, rfl, rfl, by decide +kernel, rfl, by decide +kernel, by decide +kernel⟩
theorem ok_made {f fL fE fT C mC : Addr} {fd fdL fdE fdT : FuncData} (F : L2.Fun K "made_of" "made_of" sMadeOf f fd) (B : Blt mg) (T : AlC K C)
    (mL : Meth K C "letters" fL) (GL : FnOk P w K mg base CX0 2 fL fdL ["self"] (spALet C mC)) (bL : Binds K fdL ["self"] [])
    (mE : Meth K C "element" fE) (GE : FnOk P w K mg base CX0 4 fE fdE ["self", "word"] (spAElem C mC)) (bE : Binds K fdE ["self", "word"] [])
    (mT : Meth K C "times" fT) (GT : FnOk P w K mg base CX0 3 fT fdT ["self", "i", "j"] (spAProd C mC)) (bT : Binds K fdT ["self", "i", "j"] []) : FnOk P w K mg base CX0 5 f fd ["algebra", "s"] (spMade C mC) := by
  refine F.ok scMade (fun vs H Q E h => ?_) (fun cdv A outer s H vs Q E hr h => ⟨_,
    (pss_cons (ps_setLc (i := 2) (own := [("letter", 8)]) (g := (gName 8)) (tt := tYes) (te := (tMeth C "element" (spAElem C mC) [] E0 (tVar 0) (tCons (tVar 8) tNil))) rfl scMade.nd rfl rfl (sw_true rfl rfl rfl (by decide +kernel)) (pi_str (pe_meth0 (pv 0) T.cl mL GL (hr.mono (by decide)) bL .nil pass0)) (blkOk_by (N := NMd) (sc := defScope sMadeOf) (by decide +kernel)) (fun _ _ _ _ _ => (pg_name (i := 8) scMade.nd rfl (Or.inl rfl))) (fun _ _ _ _ _ => pts_nil) (fun _ _ _ _ _ => (pe_meth (pv 0) T.cl mE GE (hr.mono (by decide)) bE .nil pass0 (pa_cons (pv 8) pa_nil))))
      (pss_cons (ps_par (i := 3) (j := 4) rfl scMade.nd rfl rfl (by decide) rfl rfl (pa_cons (pe_disp (pps_cons (pv 1) pe_bl pps_nil) (by rfl) (by rfl) (fun z => by cases z) (by decide)) (pa_cons (pe_lst (pa_cons (pv 1) pa_nil)) pa_nil)) rfl)
      (pss_cons (ps_while PassesOwn.never (pt_cmpR (op_neD (by have := hr.un; show (A.deeper _).units + 64 < _; omega)) (pv 4) (pe_lst pa_nil) (nomark _)) (pss_cons (ps_set (i := 5) scMade.nd rfl (Or.inl rfl) (pe_bm0 PySem.F.plainAttrs_list PySem.F.slot_list_pop PySem.F.type_list_pop mt_pop (pv 4)))
      (pss_one (ps_for PassesOwn.never rfl (pi_list (pv 2)) (pg_name (i := 6) scMade.nd rfl (Or.inl rfl)) (pss_one (ps_for PassesOwn.never rfl (pi_tup (pe_tup (pa_cons (pe_meth (pv 0) T.cl mT GT (hr.mono (by decide)) bT .nil pass0 (pa_cons (pv 5) (pa_cons (pv 6) pa_nil))) (pa_cons (pe_meth (pv 0) T.cl mT GT (hr.mono (by decide)) bT .nil pass0 (pa_cons (pv 6) (pa_cons (pv 5) pa_nil))) pa_nil)))) (pg_name (i := 7) scMade.nd rfl (Or.inl rfl)) (pss_one (ps_if (pt_cmp (pc_dnotin (hu_of hr) (pv 7) (pv 3)) (by decide)) (pss_cons (ps_dput (hu_of hr) (pv 3) (pv 7) pe_bl rfl)
      (pss_one (ps_expr (pe_bm PySem.F.plainAttrs_list PySem.F.slot_list_append PySem.F.type_list_append mt_append (pv 4) (pa_cons (pv 7) pa_nil))))) pss_nil))))))))
      (pss_one (ps_ret (pv 3)))))), ?_⟩)
  · obtain ⟨_, _, _, _, _, _, _, rfl, _⟩ := h
    rfl
  · obtain ⟨x, ls, R, ws, tb, st, wS, rfl, M, AM, hst, q⟩ := h
    have sz : sizeLine = 16777216 := sizeLine_eq
    have lsl : ls.cps.toList.length = ls.length := cut_len ls
    obtain ⟨dx, fs, h1, no⟩ := M.ob
    -- the letters
    refine ⟨_, rfl, x, dx, _, rfl, h1, no _ (by decide +kernel), x, ls, R, ws, tb, rfl, M, ls, rfl, fun D nD => ?_⟩
    refine lc_it (walk_signs ls) (fun k H' => Grows H H' ∧ ∃ lets : List Nat, H' D = some (.lst (lets.map nV)) ∧ lets.length = k ∧ ∀ a, a < k → ∃ p w', lets[a]? = some p ∧ ws[p]? = some w' ∧ doW R w' = doW R [a]) ⟨Grows.new nD, [], upd_same, rfl, fun a h => absurd h (Nat.not_lt_zero a)⟩ (fun _ _ _ _ => trivial) ?_ ?_
    · rintro j y H1x H1 hj ⟨g1, lets, kD, ll, la⟩ ⟨rfl, hy⟩
      rw [signs_len] at hj
      obtain ⟨c, hc⟩ : ∃ c, ls.cps.toList[j]? = some c := ⟨_, List.getElem?_eq_getElem (by omega)⟩
      unfold signsV at hy
      rw [List.getElem?_map, hc] at hy
      obtain rfl := Option.some.inj hy
      have ix : ls.cps.toList.idxOf c = j := by
        obtain ⟨hl, e⟩ := List.getElem?_eq_some_iff.mp hc
        rw [← e]
        exact AM.nd.idxOf_getElem j hl
      refine ⟨rfl, ?_⟩
      refine ⟨_, rfl, x, dx, _, rfl, g1 _ _ h1, no _ (by decide +kernel), _, rfl, x, ls, R, ws, tb, c, rfl, M.grows g1, AM.gen, AM.whole, AM.l4, AM.nd, List.mem_of_getElem? hc, fun H2 p w' g2 e1 e2 => ?_⟩
      rw [ix] at e2
      refine ⟨_, g2 _ _ kD, by rw [List.length_map]; have := AM.l4; omega, fun b o e => ?_, lets ++ [p], by rw [upd_same, List.map_append]; rfl, by rw [List.length_append, ll]; rfl, fun a ha => ?_⟩
      · rw [upd_ne (ne_of_none e nD)]
        exact g2 _ _ (g1 _ _ e)
      · by_cases ca : a < j
        · obtain ⟨p', w2, q1, q2, q3⟩ := la a ca
          exact ⟨p', w2, ext_get q1, q2, q3⟩
        · obtain rfl : a = j := by omega
          exact ⟨p, w', by rw [List.getElem?_append_right (by omega), ll, Nat.sub_self]; rfl, e1, e2⟩
    rintro H1 ⟨g1, lets, kD, ll, la⟩
    rw [signs_len] at ll la
    have M1 := M.grows g1
    have h1 := g1 _ _ h1
    clear nD
    -- found, line
    refine fun N nN => ⟨_, rfl, upd_same, [(.inl ((st : Nat) : Int), .bl true)], rfl, by show 1 ≤ 15; decide, ?_⟩
    have gN : Grows H1 (upd (upd H1 N (.dK [])) N (.dK (mergeK [] [(.inl ((st : Nat) : Int), .bl true)]))) := fun c o e => by
      rw [upd_ne (ne_of_none e nN), upd_ne (ne_of_none e nN)]
      exact e
    have kN : IntD (upd (upd H1 N (.dK [])) N (.dK (mergeK [] [(.inl ((st : Nat) : Int), .bl true)]))) N [st] := by
      refine ⟨_, upd_same, rfl, fun t => ?_⟩
      by_cases c : t = st
      · subst c
        rw [if_pos List.mem_cons_self]
        show valV [((.inl ((t : Nat) : Int) : L2.Key), V.bl true)] _ = _
        rw [valV_pos rfl]
      · rw [if_neg (fun z => c (List.mem_singleton.mp z))]
        show valV [((.inl ((st : Nat) : Int) : L2.Key), V.bl true)] _ = _
        rw [valV_neg (fun z => c (by have := Sum.inl.inj z; omega))]
        rfl
    generalize upd (upd H1 N (.dK [])) N (.dK (mergeK [] [(.inl ((st : Nat) : Int), .bl true)])) = H2 at gN kN ⊢
    refine ⟨_, rfl, by show 1 ≤ sizeLine; omega, fun L nL => ?_⟩
    have gL : Grows H2 (upd H2 L (.lst [nV st])) := Grows.new nL
    have nL1 : H1 L = none := gN.not_new nL
    have MH : MaH H1 (upd H2 L (.lst [nV st])) N L [st] [st] := ⟨gN.trans gL, kN.keep fun o e => gL _ _ e, upd_same⟩
    show _
    generalize upd H2 L (.lst [nV st]) = H3 at MH ⊢
    refine ⟨_, _, rfl, ?_⟩
    clear gN kN gL nL
    have Mk0 : MaOk ls.length R ws st wS [st] (fun q => q ∈ [st]) := ⟨by simp, fun i hi => by rw [List.mem_singleton.mp hi]; exact (List.getElem?_eq_some_iff.mp hst).1, List.mem_cons_self, fun i hi u hu => by
      rw [List.mem_singleton.mp hi, hst] at hu
      rw [← Option.some.inj hu]
      exact ⟨[], [], Lw.nil, Lw.nil, by rw [List.append_nil]; rfl⟩, fun i hi => .inl hi⟩
    refine ⟨fun k σ' H' => ∃ (F line : List Nat) (v5 v6 v7 v8 : Option V), k = 2 * (ws.length - F.length) + line.length ∧ σ' = [some (.ref x), some (nV st), some (.ref D), some (.ref N), some (.ref L), v5, v6, v7, v8] ∧ MaH H1 H' N L F line ∧ MaOk ls.length R ws st wS F (fun q => q ∈ line) ∧ (∀ q ∈ line, q ∈ F) ∧ line.length ≤ F.length,
      ⟨_, [st], [st], _, _, _, _, rfl, rfl, MH, Mk0, fun q h => h, Nat.le_refl 1⟩, ?_⟩
    clear MH Mk0
    rintro k σ' H4 ⟨F, line, v5, v6, v7, v8, rfl, rfl, MH, Mk, lin, lle⟩
    have few := Mk.few
    refine ⟨_, rfl, by show 0 ≤ sizeLine; omega, fun e ne => ?_⟩
    have ge : Grows H4 (upd H4 e (.lst [])) := Grows.new ne
    have ke : upd H4 e (.lst []) e = some (.lst []) := upd_same
    have MH := MH.grows ge
    generalize upd H4 e (.lst []) = H5 at ge ke MH ⊢
    have kl : H5 L = some (.lst ((line.map fun n => ((n : Nat) : Int)).map V.int)) := by rw [List.map_map]; exact MH.ln
    refine ⟨.list ((line.map fun n => ((n : Nat) : Int)).map PyData.int), .list [], .lst (.inl (.inl kl)) dp_ints, .lst (.inl (.inl ke)) .nil, shaped_ints _, rfl, _, rfl, ?_⟩
    rw [eqv_nil]
    by_cases hl : line = []
    · subst hl
      refine if_neg_of (by decide) ?_
      exact ⟨_, rfl, q H5 N F (g1.trans MH.gr) MH.num fun i u hu => (Mk.weak fun i _ h => absurd h List.not_mem_nil).whole AM hst hu⟩
    · refine if_pos_of (by rw [decide_eq_false (fun e => hl (List.map_eq_nil_iff.mp e))]; rfl) ?_
      refine ⟨fun σ' H' => ∃ (F' line' : List Nat) (v5 v6 v7 v8 : Option V), line'.length + 1 + F.length = line.length + F'.length ∧ F.length ≤ F'.length ∧ σ' = [some (.ref x), some (nV st), some (.ref D), some (.ref N), some (.ref L), v5, v6, v7, v8] ∧ MaH H1 H' N L F' line' ∧ MaOk ls.length R ws st wS F' (fun q => q ∈ line') ∧ (∀ q ∈ line', q ∈ F'),
        fun σ' H' ⟨F', line', v5, v6, v7, v8, a1, a0, a2, a3, a4, a5⟩ => ⟨_, by have := a4.few; omega, F', line', v5, v6, v7, v8, rfl, a2, a3, a4, a5, by omega⟩, ?_⟩
      -- pop
      obtain ⟨l0, i, rfl⟩ : ∃ l0 i, line = l0 ++ [i] := ⟨_, _, (List.dropLast_concat_getLast hl).symm⟩
      have kl5 := MH.ln
      rw [List.map_append] at kl5
      refine ⟨_, rfl, .inl ⟨rfl, _, .inl (.inl kl5)⟩, L, _, nV i, rfl, rfl, kl5, by rw [List.length_append]; simp, ?_⟩
      have edl : ((l0.map nV) ++ [i].map nV).dropLast = l0.map nV := by simp
      rw [edl]
      have hiF := lin i (List.mem_append_right _ List.mem_cons_self)
      obtain ⟨u, hu⟩ : ∃ u, ws[i]? = some u := ⟨_, List.getElem?_eq_getElem (Mk.lt i hiF)⟩
      have NL : N ≠ L := fun e => by
        obtain ⟨kvs, n1, _⟩ := MH.num
        rw [e, MH.ln] at n1
        cases n1
      have MH6 : MaH H1 (upd H5 L (.lst (l0.map nV))) N L F l0 := ⟨fun c o e => by rw [upd_ne (ne_of_none e nL1)]; exact MH.gr _ _ e, MH.num.keep fun o e => by rw [upd_ne NL]; exact e, upd_same⟩
      have Mk6 : MaOk ls.length R ws st wS F (fun q => q ∈ l0 ∨ q = i) := Mk.weak fun q _ h => .inl ((List.mem_append.mp h).imp id List.mem_singleton.mp)
      have lin6 : ∀ q ∈ l0, q ∈ F := fun q h => lin q (List.mem_append_left _ h)
      generalize upd H5 L (.lst (l0.map nV)) = H6 at MH6 ⊢
      have kD6 := MH6.gr _ _ kD
      rw [List.length_append, List.length_singleton]
      rw [List.length_append, List.length_singleton] at lle
      clear MH Mk lin kl kl5 ge ke ne edl
      have lu : Lw ls.length u := AM.lw hu
      refine ⟨_, rfl, D, rfl, ⟨_, .inl (.inl kD6)⟩, for_it (walk_list (K := K) (a := D) (xs := lets.map nV)) (fun n σ' H' => ∃ (F' line' : List Nat) (v6 v7 v8 : Option V), line'.length + 1 + F.length = l0.length + 1 + F'.length ∧ (∀ q ∈ F, q ∈ F') ∧ σ' = [some (.ref x), some (nV st), some (.ref D), some (.ref N), some (.ref L), some (nV i), v6, v7, v8] ∧ MaH H1 H' N L F' line' ∧ MaOk ls.length R ws st wS F' (fun q => q ∈ line' ∨ q = i) ∧ (∀ q ∈ line', q ∈ F') ∧ ∀ k, k < n → InF R ws F' (u ++ [k]) ∧ InF R ws F' ([k] ++ u))
        ⟨F, l0, _, _, _, rfl, fun q h => h, rfl, MH6, Mk6, lin6, fun k h => absurd h (Nat.not_lt_zero k)⟩ (fun _ _ H' _ ⟨_, _, _, _, _, _, _, _, h, _⟩ => .inl (.inl (h.gr _ _ kD))) ?_ ?_⟩
      · rintro n y σ H7x H7 hn ⟨F', line', v6, v7, v8, cn, sub, rfl, MH7, Mk7, lin7, done⟩ ⟨rfl, hy⟩
        rw [List.length_map, ll] at hn
        obtain ⟨p, w', p1, p2, p3⟩ := la n hn
        have hy : (lets.map nV)[n]? = some y := hy
        rw [List.getElem?_map, p1] at hy
        obtain rfl : nV p = y := Option.some.inj hy
        have lw' : Lw ls.length w' := AM.lw p2
        obtain ⟨hm1, wa, wa1, wa2⟩ := AM.mul lu lw'
        obtain ⟨hm2, wb, wb1, wb2⟩ := AM.mul lw' lu
        have ea : doW R wa = doW R (u ++ [n]) := by rw [wa2]; exact doW_cong AM.wf rfl p3
        have eb : doW R wb = doW R ([n] ++ u) := by rw [wb2]; exact doW_cong AM.wf p3 rfl
        have M7 := M1.grows MH7.gr
        have h17 := MH7.gr _ _ h1
        refine ⟨_, rfl, x, dx, _, rfl, h17, no _ (by decide +kernel), _, rfl, _, rfl, x, ls, R, ws, tb, i, p, u, w', rfl, M7, AM.wf, AM.few, hu, p2, hm1, fun H8 g8 => ?_⟩
        refine ⟨_, rfl, x, dx, _, rfl, g8 _ _ h17, no _ (by decide +kernel), _, rfl, _, rfl, x, ls, R, ws, tb, p, i, w', u, rfl, M7.grows g8, AM.wf, AM.few, p2, hu, hm2, fun H9 g9 => ?_⟩
        refine ⟨by show 2 ≤ sizeLine; omega, fun tp ntp => ?_⟩
        have gt : Grows H9 (upd H9 tp (.tup [nV (mulI R ws u w'), nV (mulI R ws w' u)])) := Grows.new ntp
        have kt : upd H9 tp (.tup [nV (mulI R ws u w'), nV (mulI R ws w' u)]) tp = some (.tup [nV (mulI R ws u w'), nV (mulI R ws w' u)]) := upd_same
        have MHt := MH7.grows ((g8.trans g9).trans gt)
        generalize upd H9 tp (.tup [nV (mulI R ws u w'), nV (mulI R ws w' u)]) = H10 at gt kt MHt ⊢
        clear gt ntp g8 g9 MH7 M7 h17
        have ofu := Mk7.of i (sub i hiF) u hu
        obtain ⟨a0, c0, la0, lc0, eu⟩ := ofu
        have ln1 : Lw ls.length [n] := fun j hj => by rw [List.mem_singleton.mp hj]; exact hn
        refine ⟨tp, rfl, ⟨_, .inl (.inl kt)⟩, for_it (walk_tup (K := K) (a := tp) (xs := [nV (mulI R ws u w'), nV (mulI R ws w' u)])) (fun b σ' H' => ∃ (F' line' : List Nat) (v7 v8 : Option V), line'.length + 1 + F.length = l0.length + 1 + F'.length ∧ (∀ q ∈ F, q ∈ F') ∧ σ' = [some (.ref x), some (nV st), some (.ref D), some (.ref N), some (.ref L), some (nV i), some (nV p), v7, v8] ∧ MaH H1 H' N L F' line' ∧ H' tp = some (.tup [nV (mulI R ws u w'), nV (mulI R ws w' u)]) ∧ MaOk ls.length R ws st wS F' (fun q => q ∈ line' ∨ q = i) ∧ (∀ q ∈ line', q ∈ F') ∧ (∀ k, k < n → InF R ws F' (u ++ [k]) ∧ InF R ws F' ([k] ++ u)) ∧ (1 ≤ b → InF R ws F' (u ++ [n])) ∧ (2 ≤ b → InF R ws F' ([n] ++ u)))
          ⟨F', line', _, _, cn, sub, rfl, MHt, kt, Mk7, lin7, done, fun h => by omega, fun h => by omega⟩ (fun _ _ H' _ ⟨_, _, _, _, _, _, _, _, h, _⟩ => .inl (.inl h)) ?_ ?_⟩
        · rintro b y σ H11x H11 hb ⟨F2, line2, v7, v8, cn2, sub2, rfl, MH2, kt2, Mk2, lin2, done2, d1, d2⟩ ⟨rfl, hy⟩
          have hb : b < 2 := hb
          have hy : [nV (mulI R ws u w'), nV (mulI R ws w' u)][b]? = some y := hy
          -- the one of the two
          obtain ⟨jj, vv, rfl, jv, ve, vo⟩ : ∃ (jj : Nat) (vv : List Nat), y = nV jj ∧ ws[jj]? = some vv ∧ doW R vv = doW R (if b = 0 then u ++ [n] else [n] ++ u) ∧ ∃ a c, Lw ls.length a ∧ Lw ls.length c ∧ doW R vv = doW R (a ++ wS ++ c) := by
            rcases b with _ | _ | b
            · refine ⟨_, wa, (Option.some.inj hy).symm, wa1, ea, a0, c0 ++ [n], la0, lc0.app ln1, ?_⟩
              rw [ea, doW_cong AM.wf eu (rfl : doW R [n] = _), List.append_assoc]
            · refine ⟨_, wb, (Option.some.inj hy).symm, wb1, eb, [n] ++ a0, c0, ln1.app la0, lc0, ?_⟩
              rw [eb, doW_cong AM.wf (rfl : doW R [n] = _) eu]
              simp only [List.append_assoc]
            · omega
          obtain ⟨kvs, n1, n2, n3⟩ := id MH2.num
          have few2 := Mk2.few
          have nxt : ∀ (F3 line3 : List Nat) (H' : Hp), line3.length + 1 + F.length = l0.length + 1 + F3.length → (∀ q ∈ F2, q ∈ F3) → jj ∈ F3 → MaH H1 H' N L F3 line3 → H' tp = some (.tup [nV (mulI R ws u w'), nV (mulI R ws w' u)]) → MaOk ls.length R ws st wS F3 (fun q => q ∈ line3 ∨ q = i) → (∀ q ∈ line3, q ∈ F3) → ∃ (F' line' : List Nat) (v7' v8' : Option V), line'.length + 1 + F.length = l0.length + 1 + F'.length ∧ (∀ q ∈ F, q ∈ F') ∧ [some (.ref x), some (nV st), some (.ref D), some (.ref N), some (.ref L), some (nV i), some (nV p), some (nV jj), v8] = [some (.ref x), some (nV st), some (.ref D), some (.ref N), some (.ref L), some (nV i), some (nV p), v7', v8'] ∧ MaH H1 H' N L F' line' ∧ H' tp = some (.tup [nV (mulI R ws u w'), nV (mulI R ws w' u)]) ∧ MaOk ls.length R ws st wS F' (fun q => q ∈ line' ∨ q = i) ∧ (∀ q ∈ line', q ∈ F') ∧ (∀ k, k < n → InF R ws F' (u ++ [k]) ∧ InF R ws F' ([k] ++ u)) ∧ (1 ≤ b + 1 → InF R ws F' (u ++ [n])) ∧ (2 ≤ b + 1 → InF R ws F' ([n] ++ u)) := fun F3 line3 H' c3 s3 j3 m3 t3 k3 l3 => by
            have new : InF R ws F3 (if b = 0 then u ++ [n] else [n] ++ u) := ⟨jj, j3, vv, jv, ve⟩
            refine ⟨F3, line3, _, _, c3, fun q h => s3 q (sub2 q h), rfl, m3, t3, k3, l3, fun k hk => ⟨(done2 k hk).1.more s3, (done2 k hk).2.more s3⟩, fun _ => ?_, fun h2 => ?_⟩
            · by_cases c : b = 0
              · rw [if_pos c] at new; exact new
              · exact (d1 (by omega)).more s3
            · rw [if_neg (by omega)] at new; exact new
          refine ⟨_, rfl, _, rfl, N, _, rfl, DGet.k (k := .inl ((jj : Nat) : Int)) n1, ?_⟩
          rw [n3]
          by_cases hm : jj ∈ F2
          · rw [if_pos hm]
            exact ⟨_, rfl, if_neg_of (by show ¬ (!true) = true; decide) (nxt F2 line2 H11 cn2 (fun q h => h) hm MH2 kt2 Mk2 lin2)⟩
          · rw [if_neg hm]
            refine ⟨_, rfl, if_pos_of rfl ?_⟩
            refine ⟨_, rfl, _, rfl, N, _, rfl, DPut.k (k := .inl ((jj : Nat) : Int)) n1 (by have := AM.cnt; omega), ?_⟩
            have kN := IntD.put (H := H11) (N := N) n2 n3 hm
            have kL : upd H11 N (.dK (putK kvs (.inl ((jj : Nat) : Int)) (.bl true))) L = some (.lst (line2.map nV)) := by rw [upd_ne NL.symm]; exact MH2.ln
            have kt3 : upd H11 N (.dK (putK kvs (.inl ((jj : Nat) : Int)) (.bl true))) tp = some (.tup [nV (mulI R ws u w'), nV (mulI R ws w' u)]) := by rw [upd_ne (ne_of kt2 n1 (by intro z; cases z))]; exact kt2
            have gr3 : Grows H1 (upd H11 N (.dK (putK kvs (.inl ((jj : Nat) : Int)) (.bl true)))) := fun c o e => by rw [upd_ne (ne_of_none e nN)]; exact MH2.gr _ _ e
            generalize upd H11 N (.dK (putK kvs (.inl ((jj : Nat) : Int)) (.bl true))) = H12 at kN kL kt3 gr3 ⊢
            refine ⟨_, rfl, .inl ⟨rfl, _, .inl (.inl kL)⟩, _, rfl, L, _, _, rfl, rfl, kL, by rw [List.length_map]; have := AM.cnt; omega, ?_⟩
            refine nxt (F2 ++ [jj]) (line2 ++ [jj]) _ (by rw [List.length_append, List.length_append]; simp only [List.length_singleton]; omega) (fun q h => List.mem_append_left _ h) (List.mem_append_right _ List.mem_cons_self) ⟨fun c o e => by rw [upd_ne (ne_of_none e nL1)]; exact gr3 _ _ e, kN.keep fun o e => by rw [upd_ne NL]; exact e, by rw [upd_same, List.map_append]; rfl⟩
              (by rw [upd_ne (ne_of kt3 kL (by intro z; cases z))]; exact kt3) ((Mk2.add jv hm vo).weak fun q _ h => .inl ?_) (fun q h => ?_)
            · rcases h with (h | h) | h
              · exact .inl (List.mem_append_left _ h)
              · exact .inr h
              · exact .inl (List.mem_append_right _ (List.mem_singleton.mpr h))
            · rcases List.mem_append.mp h with h | h
              · exact List.mem_append_left _ (lin2 q h)
              · exact List.mem_append_right _ h
        · rintro σ H11 ⟨F2, line2, v7, v8, cn2, sub2, rfl, MH2, kt2, Mk2, lin2, done2, d1, d2⟩
          refine ⟨F2, line2, _, _, _, cn2, sub2, rfl, MH2, Mk2, lin2, fun k hk => ?_⟩
          by_cases c : k < n
          · exact done2 k c
          · obtain rfl : k = n := by omega
            exact ⟨d1 (by show 1 ≤ 2; decide), d2 (by show 2 ≤ 2; decide)⟩
      · rintro σ H7 ⟨F', line', v6, v7, v8, cn, sub, rfl, MH7, Mk7, lin7, done⟩
        have hF : F.length ≤ F'.length := nodup_sub_len _ _ Mk6.nd sub
        refine ⟨F', line', _, _, _, _, by omega, hF, rfl, MH7, Mk7.weak fun q _ h => ?_, lin7⟩
        rcases h with h | h
        · exact .inl h
        · subst h
          refine .inr fun v hv k hk => ?_
          rw [hu] at hv
          obtain rfl := Option.some.inj hv
          exact done k (by rw [List.length_map, ll]; exact hk)
end
end SWL
set_option Elab.async false
set_option linter.all false
set_option maxRecDepth 100000
set_option maxHeartbeats 8000000
namespace SWL
open PySem PySem.Spec PyProof.Rows L2 LamX NdefX
/-! first_unturned, is_turns -/
def wd (ws : List (List Nat)) (i : Nat) : List Nat := (ws[i]?).getD []
theorem wd_at {ws : List (List Nat)} {i : Nat} (h : i < ws.length) : ws[i]? = some (wd ws i) := by unfold wd; rw [List.getElem?_eq_getElem h]; rfl
theorem wd_of {ws : List (List Nat)} {i : Nat} {u : List Nat} (h : ws[i]? = some u) : wd ws i = u := by unfold wd; rw [h]; rfl
def stTo (R : List Rw) (ws : List (List Nat)) (k : Nat) : List Nat := (List.range k).filter fun i => decide (mulI R ws (wd ws i) (wd ws i) = i)
theorem stTo_succ (R : List Rw) (ws : List (List Nat)) (k : Nat) : stTo R ws (k + 1) = stTo R ws k ++ (if mulI R ws (wd ws k) (wd ws k) = k then [k] else []) := by
  unfold stTo
  rw [List.range_succ, List.filter_append]
  congr 1
  by_cases c : mulI R ws (wd ws k) (wd ws k) = k
  · rw [if_pos c, List.filter_cons_of_pos (by rw [decide_eq_true c]), List.filter_nil]
  · rw [if_neg c, List.filter_cons_of_neg (by rw [decide_eq_false c]; decide), List.filter_nil]
theorem AlM.is {ls : Str} {R : List Rw} {ws tb : List (List Nat)} (M : AlM ls R ws tb) {i : Nat} {u v w : List Nat} (hi : ws[i]? = some w) (hu : Lw ls.length u) (hv : Lw ls.length v) : mulI R ws u v = i ↔ doW R (u ++ v) = doW R w := by
  obtain ⟨_, w', h1, h2⟩ := M.mul hu hv
  constructor
  · intro e
    rw [e, hi] at h1
    rw [Option.some.inj h1, h2]
  · intro e
    exact M.inj h1 hi (h2.trans e)
def GoodS (m : Nat) (R : List Rw) (ws : List (List Nat)) (s e : Nat) : Prop := ∀ ue us, ws[e]? = some ue → ws[s]? = some us → doW R (ue ++ ue) = doW R ue → (∃ a c, Lw m a ∧ Lw m c ∧ doW R ue = doW R (a ++ us ++ c)) → doW R (ue ++ us ++ ue) = doW R ue
theorem AlM.da {ls : Str} {R : List Rw} {ws tb : List (List Nat)} (M : AlM ls R ws tb) (h : ∀ s e, s < ws.length → e < ws.length → GoodS ls.length R ws s e) : DA ls.length R := by
  intro e x y z he hx hy hz e1 e2
  obtain ⟨ue, u1, u2⟩ := List.mem_map.mp (M.el.all e he)
  obtain ⟨us, s1, s2⟩ := List.mem_map.mp (M.el.all y hy)
  obtain ⟨ie, hie⟩ := List.getElem?_of_mem u1
  obtain ⟨is, his⟩ := List.getElem?_of_mem s1
  have := h is ie (List.getElem?_eq_some_iff.mp his).1 (List.getElem?_eq_some_iff.mp hie).1 ue us hie his (by rw [doW_cong M.wf u2 u2, e1, u2]) ⟨x, z, hx, hz, by rw [u2, e2, doW_cong M.wf (doW_cong M.wf (rfl : doW R x = _) s2) (rfl : doW R z = _)]⟩
  rw [← doW_cong M.wf (doW_cong M.wf u2 s2) u2, this, u2]
def spUnturned (C mC : Addr) : Sp := fun vs H Q _ => ∃ (x : Addr) (ls : Str) (R : List Rw) (ws tb : List (List Nat)), vs = [.ref x] ∧ AlgAt H x C mC ls R ws tb ∧ AlM ls R ws tb ∧
  ∀ (H' : Hp) (v : V), Grows H H' → ((v = .non ∧ DA ls.length R) ∨ ((∃ p, v = .ref p) ∧ ¬ DA ls.length R)) → Q v H'
def spIsTurns (mC Pl : Addr) : Sp := fun vs H Q _ => ∃ (ma : Addr) (ls : Str) (R : List Rw), vs = [.ref ma] ∧ MachAt H ma mC ls R ∧ okLetters ls = true ∧ 1 ≤ ls.length ∧ ls.length ≤ 4 ∧ ls.cps.toList.Nodup ∧ WfR ls.length R ∧ R.length ≤ 60 ∧ TabsN [(Pl, nmL)] H ∧ Few ls.length (tkR R 0) 24 ∧
  ∀ (H' : Hp) (b : Bool), ExtN H H' → (∀ c, H' c = none → H c = none) → TabsN [(Pl, nmL)] H' → (b = true ↔ DAT ls.length (tkR R 0)) → Q (.bl b) H'
abbrev NUn : List Str := ["algebra", "stills", "s", "below", "e", "i"]
section
variable {P : Program} {w : World} {K : PySem.W.Frag} {mg : Str → Option Value} {base : Heap}
theorem scUnt : FnScope NUn ["algebra"] (defScope sUnturned) := ⟨rfl, rfl, rfl, by decide +kernel, rfl, by decide +kernel, by decide +kernel⟩
theorem ok_unt {f fN fT fMd C mC : Addr} {fd fdN fdT fdMd : FuncData} (F : L2.Fun K "first_unturned" "first_unturned" sUnturned f fd) (B : Blt mg) (T : AlC K C)
    (mN : Meth K C "__len__" fN) (GN : FnOk P w K mg base CX0 1 fN fdN ["self"] (spALen C mC)) (bN : Binds K fdN ["self"] [])
    (mT : Meth K C "times" fT) (GT : FnOk P w K mg base CX0 3 fT fdT ["self", "i", "j"] (spAProd C mC)) (bT : Binds K fdT ["self", "i", "j"] [])
    (GMd : FnOk P w K mg base CX0 5 fMd fdMd ["algebra", "s"] (spMade C mC)) (DMd : Def mg K "made_of" fMd fdMd ["algebra", "s"]) : FnOk P w K mg base CX0 6 f fd ["algebra"] (spUnturned C mC) := by
  refine F.ok scUnt (fun vs H Q E h => ?_) (fun cdv A outer s H vs Q E hr h => ⟨_,
    (pss_cons (ps_setLc (i := 1) (own := [("i", 5)]) (g := (gName 5)) (tt := (tTest (tOp rEq (tMeth C "times" (spAProd C mC) [] E0 (tVar 0) (tCons (tVar 5) (tCons (tVar 5) tNil))) (tVar 5)))) (te := (tVar 5)) rfl scUnt.nd rfl rfl (sw_true rfl rfl rfl (by decide +kernel)) (pi_range1 (by rfl) B.range (pa_cons (pe_callB (cr_lenO mN GN bN (hr.mono (by decide))) (by rfl) B.len PySem.boot_len (pa_cons (pv 0) pa_nil)) pa_nil)) (blkOk_by (N := NUn) (sc := defScope sUnturned) (by decide +kernel)) (fun _ _ _ _ _ => (pg_name (i := 5) scUnt.nd rfl (Or.inl rfl))) (fun _ _ _ _ _ => pts_one (pt_cmpR op_eq (pe_meth (pv 0) T.cl mT GT (hr.mono (by decide)) bT .nil pass0 (pa_cons (pv 5) (pa_cons (pv 5) pa_nil))) (pv 5) (nomark _))) (fun _ _ _ _ _ => (pv 5)))
      (pss_cons (ps_for PassesOwn.never rfl (pi_range1 (by rfl) B.range (pa_cons (pe_callB (cr_lenO mN GN bN (hr.mono (by decide))) (by rfl) B.len PySem.boot_len (pa_cons (pv 0) pa_nil)) pa_nil)) (pg_name (i := 2) scUnt.nd rfl (Or.inl rfl)) (pss_cons (ps_set (i := 3) scUnt.nd rfl (Or.inl rfl) (pe_call GMd (hr.mono (by decide)) (by rfl) DMd.g DMd.k DMd.b .nil pass0 (pa_cons (pv 0) (pa_cons (pv 2) pa_nil))))
      (pss_one (ps_for PassesOwn.never rfl (pi_list (pv 1)) (pg_name (i := 4) scUnt.nd rfl (Or.inl rfl)) (pss_one (ps_if (PW.pt (pw_and (pt_cmp (pc_din (hu_of hr) (pv 4) (pv 3)) (by decide)) (pw_and1 (pt_cmpR op_ne (pe_meth (pv 0) T.cl mT GT (hr.mono (by decide)) bT .nil pass0 (pa_cons (pe_meth (pv 0) T.cl mT GT (hr.mono (by decide)) bT .nil pass0 (pa_cons (pv 4) (pa_cons (pv 2) pa_nil))) (pa_cons (pv 4) pa_nil))) (pv 4) (nomark _))))) (pss_one (ps_ret (pe_tup (pa_cons (pv 4) (pa_cons (pv 2) pa_nil))))) pss_nil))))))
      (pss_one (ps_ret pe_non)))), ?_⟩)
  · obtain ⟨_, _, _, _, _, rfl, _⟩ := h
    rfl
  · obtain ⟨x, ls, R, ws, tb, rfl, M, AM, q⟩ := h
    have sz : sizeLine = 16777216 := sizeLine_eq
    have cnt := AM.cnt
    obtain ⟨dx, fs, h1, no⟩ := M.ob
    refine ⟨_, rfl, x, dx, _, rfl, h1, x, ls, R, ws, tb, rfl, M, ws.length, rfl, by omega, _, rfl, by omega, by omega, fun D nD => ?_⟩
    refine lc_it walk_range (fun k H' => Grows H H' ∧ H' D = some (.lst ((stTo R ws k).map nV))) ⟨Grows.new nD, upd_same⟩ (fun _ _ _ _ => trivial) ?_ ?_
    · rintro k y H1x H1 hk ⟨g1, kD⟩ ⟨rfl, rfl⟩
      have hk : k < ws.length := by omega
      have hw := wd_at hk
      have lw := AM.lw hw
      have e0 : (fun i : Nat => V.int (0 + (i : Int))) k = nV k := congrArg V.int (by omega)
      rw [e0]
      refine ⟨rfl, ?_⟩
      refine ⟨_, rfl, x, dx, _, rfl, g1 _ _ h1, no _ (by decide +kernel), _, rfl, _, rfl, x, ls, R, ws, tb, k, k, _, _, rfl, M.grows g1, AM.wf, AM.few, hw, hw, (AM.mul lw lw).1, fun H2 g2 => ?_⟩
      refine ⟨_, rfl, rfl, _, rfl, ?_⟩
      have kD2 := g2 _ _ kD
      have sl : (stTo R ws k).length ≤ k := by
        unfold stTo
        exact Nat.le_trans (List.length_filter_le _ _) (by rw [List.length_range]; exact Nat.le_refl k)
      have es := stTo_succ R ws k
      by_cases c : mulI R ws (wd ws k) (wd ws k) = k
      · rw [if_pos c] at es
        refine if_pos_of (decide_eq_true (congrArg nV c)) ⟨_, rfl, _, kD2, by rw [List.length_map]; omega, fun b o e => ?_, ?_⟩
        · rw [upd_ne (ne_of_none e nD)]
          exact g2 _ _ (g1 _ _ e)
        · rw [upd_same, es, List.map_append]
          rfl
      · rw [if_neg c, List.append_nil] at es
        refine if_neg_of (by rw [decide_eq_false (fun e => c (by have := V.int.inj e; omega))]; decide) ⟨g1.trans g2, ?_⟩
        rw [es]
        exact kD2
    rintro H1 ⟨g1, kD⟩
    have en : ((ws.length : Nat) : Int).toNat = ws.length := by omega
    rw [en] at kD
    have M1 := M.grows g1
    have h1 := g1 _ _ h1
    generalize hst : stTo R ws ws.length = st at kD
    have st1 : ∀ e ∈ st, e < ws.length ∧ doW R (wd ws e ++ wd ws e) = doW R (wd ws e) := fun e he => by
      rw [← hst] at he
      obtain ⟨a, b⟩ := List.mem_filter.mp he
      have a := List.mem_range.mp a
      have l := AM.lw (wd_at a)
      exact ⟨a, (AM.is (wd_at a) l l).mp (of_decide_eq_true b)⟩
    have st2 : ∀ e, e < ws.length → doW R (wd ws e ++ wd ws e) = doW R (wd ws e) → e ∈ st := fun e he h => by
      rw [← hst]
      have l := AM.lw (wd_at he)
      exact List.mem_filter.mpr ⟨List.mem_range.mpr he, decide_eq_true ((AM.is (wd_at he) l l).mpr h)⟩
    refine ⟨_, rfl, x, dx, _, rfl, h1, x, ls, R, ws, tb, rfl, M1, ws.length, rfl, by omega, _, rfl, by omega, by omega, for_it walk_range (fun k σ H' => ∃ (v2 v3 v4 v5 : Option V), σ = [some (.ref x), some (.ref D), v2, v3, v4, v5] ∧ Grows H1 H' ∧ ∀ s e, s < k → e < ws.length → GoodS ls.length R ws s e)
      ⟨_, _, _, _, rfl, Grows.refl H1, fun s e h => absurd h (Nat.not_lt_zero s)⟩ (fun _ _ _ _ _ => trivial) ?_ ?_⟩
    · rintro k y σ H2x H2 hk ⟨v2, v3, v4, v5, rfl, g2, ok⟩ ⟨rfl, rfl⟩
      have hk : k < ws.length := by omega
      have hw := wd_at hk
      have lw := AM.lw hw
      have e0 : (fun i : Nat => V.int (0 + (i : Int))) k = nV k := congrArg V.int (by omega)
      rw [e0]
      refine ⟨_, rfl, _, rfl, x, ls, R, ws, tb, k, wd ws k, rfl, M1.grows g2, AM, hw, fun H3 p F g3 kF inF => ?_⟩
      have g23 := g2.trans g3
      refine ⟨_, rfl, D, rfl, ⟨_, .inl (.inl (g23 _ _ kD))⟩, for_it (walk_list (K := K) (a := D) (xs := st.map nV)) (fun n σ H' => ∃ (v4 v5 : Option V), σ = [some (.ref x), some (.ref D), some (nV k), some (.ref p), v4, v5] ∧ Grows H3 H' ∧ ∀ i e, i < n → st[i]? = some e → GoodS ls.length R ws k e)
        ⟨_, _, rfl, Grows.refl H3, fun i e h => absurd h (Nat.not_lt_zero i)⟩ (fun _ _ H' _ ⟨_, _, _, h, _⟩ => .inl (.inl (h _ _ (g23 _ _ kD)))) ?_ ?_⟩
      · rintro n y σ H4x H4 hn ⟨v4, v5, rfl, g4, done⟩ ⟨rfl, hy⟩
        have hy : (st.map nV)[n]? = some y := hy
        rw [List.length_map] at hn
        obtain ⟨e, he⟩ : ∃ e, st[n]? = some e := ⟨_, List.getElem?_eq_getElem hn⟩
        rw [List.getElem?_map, he] at hy
        obtain rfl : nV e = y := Option.some.inj hy
        obtain ⟨el, ei⟩ := st1 e (List.mem_of_getElem? he)
        have hwe := wd_at el
        have lwe := AM.lw hwe
        have more : GoodS ls.length R ws k e → ∀ i q, i < n + 1 → st[i]? = some q → GoodS ls.length R ws k q := fun hg i q hi hq => by
          by_cases c : i < n
          · exact done i q c hq
          · obtain rfl : i = n := by omega
            rw [he] at hq
            rw [← Option.some.inj hq]
            exact hg
        have g34 := g23.trans g4
        obtain ⟨kvs, n1, n2, n3⟩ := id kF
        have n1 := g4 _ _ n1
        refine ⟨_, rfl, _, rfl, p, _, rfl, DGet.k (k := .inl ((e : Nat) : Int)) n1, ?_⟩
        rw [n3]
        by_cases hm : e ∈ F
        · rw [if_pos hm]
          obtain ⟨a, c', la, lc, eac⟩ := (inF e _ hwe).mp hm
          refine ⟨_, rfl, if_pos_of rfl ?_⟩
          obtain ⟨hm1, w', w1, w2⟩ := AM.mul lwe lw
          have lw' := AM.lw w1
          refine ⟨_, rfl, x, dx, _, rfl, g34 _ _ h1, no _ (by decide +kernel), _, rfl, x, dx, _, rfl, g34 _ _ h1, no _ (by decide +kernel), _, rfl, _, rfl, x, ls, R, ws, tb, e, k, _, _, rfl, M1.grows g34, AM.wf, AM.few, hwe, hw, hm1, fun H5 g5 => ?_⟩
          refine ⟨_, rfl, x, ls, R, ws, tb, mulI R ws (wd ws e) (wd ws k), e, w', _, rfl, M1.grows (g34.trans g5), AM.wf, AM.few, w1, hwe, (AM.mul lw' lwe).1, fun H6 g6 => ⟨_, rfl, rfl, _, rfl, ?_⟩⟩
          have e3 : doW R (w' ++ wd ws e) = doW R (wd ws e ++ wd ws k ++ wd ws e) := doW_cong AM.wf w2 rfl
          have iff := AM.is hwe lw' lwe
          rw [e3] at iff
          by_cases c : mulI R ws w' (wd ws e) = e
          · refine if_neg_of (by rw [decide_eq_true (congrArg nV c)]; decide) ?_
            refine ⟨_, _, rfl, g4.trans (g5.trans g6), more fun ue us h1 h2 _ _ => ?_⟩
            rw [hwe] at h1
            rw [hw] at h2
            rw [← Option.some.inj h1, ← Option.some.inj h2]
            exact iff.mp c
          · refine if_pos_of (by rw [decide_eq_false (fun e => c (by have := V.int.inj e; omega))]; rfl) ?_
            refine ⟨_, rfl, _, rfl, by show 2 ≤ sizeLine; omega, fun r nr => q _ _ ((g1.trans g34).trans ((g5.trans g6).trans (Grows.new nr))) (.inr ⟨⟨_, rfl⟩, fun da => c (iff.mpr ?_)⟩)⟩
            exact da _ a _ c' lwe la lw lc ei eac
        · rw [if_neg hm]
          refine ⟨_, rfl, if_neg_of (by decide) ?_⟩
          refine ⟨_, _, rfl, g4, more fun ue us h1 h2 _ hac => ?_⟩
          rw [hwe] at h1
          rw [hw] at h2
          rw [← Option.some.inj h1, ← Option.some.inj h2] at hac
          exact absurd ((inF e _ hwe).mpr hac) hm
      · rintro σ H4 ⟨v4, v5, rfl, g4, done⟩
        refine ⟨_, _, _, _, rfl, g23.trans g4, fun s e hs he => ?_⟩
        by_cases c : s < k
        · exact ok s e c he
        · obtain rfl : s = k := by omega
          intro ue us h1 h2 h3 h4
          have hm : e ∈ st := st2 e he (by rw [wd_of h1]; exact h3)
          obtain ⟨i, hi⟩ := List.getElem?_of_mem hm
          exact done i e (by rw [List.length_map]; exact (List.getElem?_eq_some_iff.mp hi).1) hi ue us h1 h2 h3 h4
    · rintro σ H2 ⟨v2, v3, v4, v5, rfl, g2, ok⟩
      refine q H2 .non (g1.trans g2) (.inl ⟨rfl, AM.da fun s e hs he => ok s e (by omega) he⟩)
theorem scIsT : FnScope ["machine"] ["machine"] (defScope sIsTurns) := ⟨rfl, rfl, rfl, by decide +kernel, rfl, by decide +kernel, by decide +kernel⟩
theorem ok_isT {f fI fU C mC Pl : Addr} {fd fdI fdU : FuncData} (F : L2.Fun K "is_turns" "is_turns" sIsTurns f fd)
    (Mk_ : Mk K C fI) (mgC : mg "Algebra" = some (.ref C)) (GI : FnOk P w K mg base CX0 12 fI fdI ["self", "machine"] (spAInit C mC Pl)) (bI : Binds K fdI ["self", "machine"] [])
    (GUn : FnOk P w K mg base CX0 6 fU fdU ["algebra"] (spUnturned C mC)) (DUn : Def mg K "first_unturned" fU fdU ["algebra"]) : FnOk P w K mg base CX0 14 f fd ["machine"] (spIsTurns mC Pl) := by
  refine F.ok scIsT (fun vs H Q E h => ?_) (fun cdv A outer s H vs Q E hr h => ⟨_,
    (pss_one (ps_ret (pe_cmpR op_isN (pe_call GUn (hr.mono (by decide)) (by rfl) DUn.g DUn.k DUn.b .nil pass0 (pa_cons (pe_make Mk_ GI (hr.mono (by decide)) (by rfl) mgC bI .nil pass0 (pa_cons (pv 0) pa_nil)) pa_nil)) pe_non (nomark _)))), ?_⟩)
  · obtain ⟨_, _, _, rfl, _⟩ := h
    rfl
  · obtain ⟨ma, ls, R, rfl, M, hok, hl1, hl4, hnd, W, h60, tab, few, q⟩ := h
    refine ⟨_, rfl, fun x dx nx ndx dne => ?_⟩
    have gM : Grows H (upd (upd H dx (.own x)) x (.ins C dx [])) := fun c o e => by
      rw [upd_ne (ne_of_none e nx), upd_ne (ne_of_none e ndx)]
      exact e
    refine ⟨x, dx, ma, ls, R, rfl, upd_same, M.grows gM, hok, hl1, hl4, hnd, W, h60, tab.ext gM, few, fun H1 R' ws tb e1 n1 t1 A1 O1 => ⟨rfl, ?_⟩⟩
    have AM : AlM ls R' ws tb := ⟨O1.wf, O1.few, O1.gen, O1.whole, O1.cnt, hl4, hnd⟩
    have iff : DA ls.length R' ↔ DAT ls.length (tkR R 0) := (da_lang O1.wf O1.rc O1.mn).trans (daT_same O1.same)
    refine ⟨x, ls, R', ws, tb, rfl, A1, AM, fun H2 v g2 hv => ?_⟩
    have ex : ExtN H H2 := fun c o e nt => g2 _ _ (e1 c o (ne_of_none e nx) (gM _ _ e) nt)
    have nn : ∀ c, H2 c = none → H c = none := fun c e => gM.not_new (n1 c (g2.not_new e))
    have tt : TabsN [(Pl, nmL)] H2 := t1.ext g2
    rcases hv with ⟨rfl, da⟩ | ⟨⟨p, rfl⟩, da⟩
    · exact ⟨rfl, q H2 true ex nn tt ⟨fun _ => iff.mp da, fun _ => rfl⟩⟩
    · exact ⟨rfl, q H2 false ex nn tt ⟨fun h => (by cases h), fun h => absurd (iff.mpr h) da⟩⟩
end
end SWL
set_option Elab.async false
set_option linter.all false
set_option maxRecDepth 100000
set_option maxHeartbeats 8000000
namespace SWL
open PySem PySem.Spec PyProof.Rows L2 LamX NdefX
/-! the law's own doings -/
abbrev monScope : Scope := { kind := .function, names := [(".0", .local), ("at", .cell), ("tuple", .globalImplicit), ("rows", .cell)], isGenerator := false, isCoroutine := false }
def dTup (d : List Nat) : PyData := .tuple (d.map fun n => PyData.int ((n : Nat) : Int))
theorem dp_all {K : PySem.W.Frag} {H : Hp} : ∀ d : List Nat, DpAll K H (d.map nV) (d.map fun n => PyData.int ((n : Nat) : Int))
  | [] => .nil
  | a :: d => .cons (.int _) (dp_all d)
theorem dp_tup {K : PySem.W.Frag} {H : Hp} {a : Addr} {d : List Nat} (h : H a = some (.tup (d.map nV))) : Dp K H (.ref a) (dTup d) := .tup (.inl (.inl h)) (dp_all d)
theorem eqv_tup (d e : List Nat) : PyData.eqv (dTup d) (dTup e) = decide (d = e) := by
  have gen : ∀ d e : List Nat, PyData.eqvAll (d.map fun n => PyData.int ((n : Nat) : Int)) (e.map fun n => PyData.int ((n : Nat) : Int)) = decide (d = e) := by
    intro d
    induction d with
    | nil => intro e; cases e <;> rfl
    | cons a d ih =>
      intro e
      cases e with
      | nil => rfl
      | cons b e =>
        rw [List.map_cons, List.map_cons, PyData.eqvAll, ih]
        have h1 : PyData.eqv (PyData.int ((a : Nat) : Int)) (PyData.int ((b : Nat) : Int)) = decide (a = b) := by
          show decide (((a : Nat) : Int) = ((b : Nat) : Int)) = _
          rw [Bool.eq_iff_iff, decide_eq_true_eq, decide_eq_true_eq]
          omega
        rw [h1, Bool.eq_iff_iff, Bool.and_eq_true, decide_eq_true_eq, decide_eq_true_eq, decide_eq_true_eq]
        exact ⟨fun ⟨h, k⟩ => by rw [h, k], fun h => List.cons.inj h⟩
  exact gen d e
theorem can_nats : ∀ d : List Nat, PyData.canLayAll0 (d.map fun n => PyData.int ((n : Nat) : Int)) = true
  | [] => rfl
  | a :: d => by simp [PyData.canLayAll0, PyData.canLay0, can_nats d]
theorem dep_nats : ∀ d : List Nat, PyData.depthAll (d.map fun n => PyData.int ((n : Nat) : Int)) = 0
  | [] => rfl
  | a :: d => by
    rw [List.map_cons, PyData.depthAll, dep_nats d]
    rfl
theorem can_tup (d : List Nat) : PyData.canLay0 (dTup d) = true := by
  unfold dTup
  simp [PyData.canLay0, can_nats d]
theorem dep_tup (d : List Nat) : PyData.depth (dTup d) ≤ 1 := by
  unfold dTup
  rw [PyData.depth, dep_nats d]
  decide
theorem shaped_tup (d : List Nat) : SeqAt.shaped (dTup d) = true := by
  unfold SeqAt.shaped
  rw [can_tup, decide_eq_true (Nat.le_trans (dep_tup d) (by decide))]
  rfl
theorem shaped_tups (D : List (List Nat)) : SeqAt.shaped (.list (D.map dTup)) = true := by
  have c : ∀ D : List (List Nat), PyData.canLayAll0 (D.map dTup) = true ∧ PyData.depthAll (D.map dTup) ≤ 1 := by
    intro D
    induction D with
    | nil => exact ⟨rfl, Nat.zero_le _⟩
    | cons d D ih =>
      rw [List.map_cons, PyData.depthAll]
      have := dep_tup d
      refine ⟨by simp [PyData.canLayAll0, can_tup d, ih.1], by have := ih.2; omega⟩
  obtain ⟨c1, c2⟩ := c D
  unfold SeqAt.shaped
  have h1 : PyData.canLay0 (.list (D.map dTup)) = true := by simp [PyData.canLay0, c1]
  have h2 : PyData.depth (.list (D.map dTup)) ≤ 64 := by rw [PyData.depth]; omega
  rw [h1, decide_eq_true h2]
  rfl
theorem any_tup (D : List (List Nat)) (t : List Nat) : ((D.map dTup).any fun z => PyData.eqv z (dTup t)) = decide (t ∈ D) := by
  rw [List.any_map, Bool.eq_iff_iff, List.any_eq_true, decide_eq_true_eq]
  constructor
  · rintro ⟨d, hd, h⟩
    have h : PyData.eqv (dTup d) (dTup t) = true := h
    rw [eqv_tup] at h
    rw [← of_decide_eq_true h]
    exact hd
  · intro h
    exact ⟨t, h, by show PyData.eqv (dTup t) (dTup t) = true; rw [eqv_tup]; exact decide_eq_true rfl⟩
theorem TupsAt.dp {K : PySem.W.Frag} {H : Hp} : ∀ {D : List (List Nat)} {vs : List V}, TupsAt H vs D → DpAll K H vs (D.map dTup)
  | [], [], _ => .nil
  | [], _ :: _, h => absurd h.len (by simp)
  | _ :: _, [], h => absurd h.len (by simp)
  | d :: D, v :: vs, h => by
    obtain ⟨a, h1, h2⟩ := h.at_ 0 d rfl
    obtain rfl : v = .ref a := Option.some.inj h1
    exact .cons (dp_tup h2) (TupsAt.dp ⟨Nat.succ.inj h.len, fun k e he => h.at_ (k + 1) e he⟩)
/-- gone through so far -/
structure MonOk (m : Nat) (R : List Rw) (ws : List (List Nat)) (at_ k : Nat) : Prop where
  nd : (ws.map (doW R)).Nodup
  lw : ∀ w ∈ ws, Lw m w
  fst : ws[0]? = some []
  cl : ∀ (i : Nat) (w : List Nat), ws[i]? = some w → ∀ j, j < m → (i < at_ ∨ (i = at_ ∧ j < k)) → doW R (w ++ [j]) ∈ ws.map (doW R)
theorem MonOk.elems {m : Nat} {R : List Rw} {ws : List (List Nat)} {n : Nat} (W : WfR m R) (G : MonOk m R ws n 0) (h : ws.length ≤ n) : Elems m R (ws.map (doW R)) := by
  refine ⟨G.nd, fun d hd => ?_, fun w hw => ?_⟩
  · obtain ⟨w, h1, h2⟩ := List.mem_map.mp hd
    exact ⟨w, G.lw w h1, h2.symm⟩
  · have gen : ∀ r : List Nat, Lw m r.reverse → doW R r.reverse ∈ ws.map (doW R) := by
      intro r
      induction r with
      | nil => exact fun _ => List.mem_map.mpr ⟨[], List.mem_of_getElem? G.fst, rfl⟩
      | cons j r ih =>
        intro hr
        rw [List.reverse_cons] at hr ⊢
        obtain ⟨w, h1, h2⟩ := List.mem_map.mp (ih fun a ha => hr a (List.mem_append_left _ ha))
        obtain ⟨i, hi⟩ := List.getElem?_of_mem h1
        have il := (List.getElem?_eq_some_iff.mp hi).1
        rw [← doW_cong W h2 (rfl : doW R [j] = _)]
        exact G.cl i w hi j (hr j (List.mem_append_right _ List.mem_cons_self)) (.inl (by omega))
    have := gen w.reverse (by rw [List.reverse_reverse]; exact hw)
    rwa [List.reverse_reverse] at this
theorem MonOk.here {m : Nat} {R : List Rw} {ws : List (List Nat)} {n k : Nat} {w : List Nat} (G : MonOk m R ws n k) (hw : ws[n]? = some w) (hm : doW R (w ++ [k]) ∈ ws.map (doW R)) : MonOk m R ws n (k + 1) := ⟨G.nd, G.lw, G.fst, fun i u hu j hj h => by
  by_cases c : i < n ∨ (i = n ∧ j < k)
  · exact G.cl i u hu j hj c
  · obtain ⟨rfl, rfl⟩ : i = n ∧ j = k := by omega
    rw [hw] at hu
    rw [← Option.some.inj hu]
    exact hm⟩
theorem MonOk.more {m : Nat} {R : List Rw} {ws : List (List Nat)} {n k : Nat} {v : List Nat} (G : MonOk m R ws n k) (hn : n < ws.length) (hv : Lw m v) (hm : doW R v ∉ ws.map (doW R)) : MonOk m R (ws ++ [v]) n k := by
  refine ⟨?_, fun u hu => ?_, ext_get G.fst, fun i u hu j hj h => ?_⟩
  · rw [List.map_append, List.nodup_append]
    refine ⟨G.nd, by simp, fun a ha b hb => ?_⟩
    rw [List.map_cons, List.map_nil, List.mem_singleton] at hb
    rw [hb]
    exact fun e => hm (e ▸ ha)
  · rcases List.mem_append.mp hu with h | h
    · exact G.lw u h
    · rw [List.mem_singleton.mp h]; exact hv
  · rw [List.getElem?_append_left (by omega)] at hu
    rw [List.map_append]
    exact List.mem_append_left _ (G.cl i u hu j hj h)
def spMono : Sp := fun vs H Q _ => ∃ (D : Addr) (xs : List V) (R : List Rw) (ls : Str), vs = [.ref D, .str ls] ∧ H D = some (.lst xs) ∧ RowsAt H xs R ∧ WfR ls.length R ∧ R.length ≤ 60 ∧ ls.length ≤ 4 ∧
  ∀ (H' : Hp) (v : V), Grows H H' → (v = .non ∨ ∃ (p : Addr) (us : List V) (ws : List (List Nat)), v = .ref p ∧ H' p = some (.lst us) ∧ TupsAt H' us (ws.map (doW R)) ∧ (∀ w ∈ ws, Lw ls.length w) ∧ Elems ls.length R (ws.map (doW R)) ∧ ws.length ≤ 24) → Q v H'
def spLawBeh : Sp := fun vs H Q _ => ∃ (p1 p2 : Addr) (d1 d2 : List Nat), vs = [.ref p1, .ref p2] ∧ H p1 = some (.tup (d1.map nV)) ∧ H p2 = some (.tup (d2.map nV)) ∧ (∀ s ∈ d1, s < d2.length) ∧ d1.length ≤ 1000 ∧ ∀ (H' : Hp) (p : Addr), Grows H H' → H' p = some (.tup ((cmp d1 d2).map nV)) → Q (.ref p) H'
def spStill : Sp := fun vs H Q _ => ∃ (p : Addr) (m : Nat) (R : List Rw) (E : List (List Nat)) (w : List Nat), vs = [.ref p] ∧ H p = some (.tup ((doW R w).map nV)) ∧ WfR m R ∧ R.length ≤ 60 ∧ Elems m R E ∧ Lw m w ∧
  ∀ (H' : Hp) (p' : Addr) (k : Nat), Grows H H' → 1 ≤ k → H' p' = some (.tup ((doW R (pw w k)).map nV)) → doW R (pw w k ++ pw w k) = doW R (pw w k) → (doW R (w ++ w) = doW R w → k = 1) → Q (.ref p') H'
abbrev NLb : List Str := ["one", "other", "stand"]
abbrev NMo : List Str := ["rows", "letters", "at", "start", "signs", "found", "sign", "there", "row", "stand"]
section
variable {P : Program} {w : World} {K : PySem.W.Frag} {mg : Str → Option Value} {base : Heap}
theorem scLBeh : FnScope NLb ["one", "other"] (defScope sLawBeh) := ⟨rfl, rfl, rfl, by decide +kernel, rfl, by decide +kernel, by decide +kernel⟩
theorem ok_lBeh {f : Addr} {fd : FuncData} (F : L2.Fun K "_law_behind" "_law_behind" sLawBeh f fd) (B : Blt mg) : FnOk P w K mg base CX0 1 f fd ["one", "other"] spLawBeh := by
  refine F.ok scLBeh (fun vs H Q E h => ?_) (fun cdv A outer s H vs Q E hr h => ⟨_,
    (pss_one (ps_ret (pe_callTy call_tuple_of (by rfl) B.tuple (by decide +kernel) (pa_cons (pe_lc (own := [("stand", 2)]) (g := (gName 2)) (tt := tYes) (te := (tOp (rIxT K) (tVar 1) (tVar 2))) rfl scLBeh.nd (pi_tup (pv 0)) (blkOk_by (N := NLb) (sc := defScope sLawBeh) (by decide +kernel)) (fun _ _ _ _ _ => (pg_name (i := 2) scLBeh.nd rfl (Or.inl rfl))) (fun _ _ _ _ _ => pts_nil) (fun _ _ _ _ _ => (pe_ix ix_tup (pv 1) (pv 2) (fun _ _ => rfl)))) pa_nil)))), ?_⟩)
  · obtain ⟨_, _, _, _, rfl, _⟩ := h
    rfl
  · obtain ⟨p1, p2, d1, d2, rfl, h1, h2, hl, h3, q⟩ := h
    have sz : sizeLine = 16777216 := sizeLine_eq
    refine ⟨_, rfl, p1, rfl, ⟨_, .inl (.inl h1)⟩, fun D nD => ?_⟩
    refine comp1 (I := d1) (gv := nV) (i := 2) (tt := tYes) (te := (tOp (rIxT K) (tVar 1) (tVar 2))) (G := fun H => SqT K H p1 (d1.map nV)) (by have := walk_tup (K := K) (a := p1) (xs := d1.map nV); rw [List.length_map] at this; exact this) (fun _ => true) (fun s => nV (gd d2 s)) nD (fun H' g => .inl (.inl (g _ _ h1)))
      (by omega) (fun s H k _ g hk => hk H (Grows.refl H)) (fun s H' Q hs _ g hq => ?_) (fun H5 g5 kD => ?_)
    · exact ⟨_, rfl, _, rfl, p2, _, _, _, rfl, rfl, .inl (.inl (g _ _ h2)), atI_nat (j := s) (by rw [List.getElem?_map, gd_at (hl s hs)]; rfl), hq H' (Grows.refl H')⟩
    rw [filter_yes] at kD
    have eD : d1.map (fun s => nV (gd d2 s)) = (cmp d1 d2).map nV := by unfold cmp; rw [List.map_map]; rfl
    rw [eD] at kD
    exact ⟨D, _, rfl, .inl ⟨.inl (.inl kD), fun p np => q _ p (g5.trans (Grows.new np)) upd_same⟩⟩
theorem scStill : FnScope ["one", "found"] ["one"] (defScope sStill) := ⟨rfl, rfl, rfl, by decide +kernel, rfl, by decide +kernel, by decide +kernel⟩
theorem ok_still {f fB : Addr} {fd fdB : FuncData} (F : L2.Fun K "_law_still" "_law_still" sStill f fd) (GBh : FnOk P w K mg base CX0 1 fB fdB ["one", "other"] spLawBeh) (DBh : Def mg K "_law_behind" fB fdB ["one", "other"]) : FnOk P w K mg base CX0 2 f fd ["one"] spStill := by
  refine F.ok scStill (fun vs H Q E h => ?_) (fun cdv A outer s H vs Q E hr h => ⟨_,
    (pss_cons (ps_set (i := 1) scStill.nd rfl (Or.inl rfl) (pv 0))
      (pss_cons (ps_while PassesOwn.never (pt_cmpR (op_neD (by have := hr.un; show (A.deeper _).units + 64 < _; omega)) (pe_call GBh (hr.mono (by decide)) (by rfl) DBh.g DBh.k DBh.b .nil pass0 (pa_cons (pv 1) (pa_cons (pv 1) pa_nil))) (pv 1) (nomark _)) (pss_one (ps_set (i := 1) scStill.nd rfl (Or.inl rfl) (pe_call GBh (hr.mono (by decide)) (by rfl) DBh.g DBh.k DBh.b .nil pass0 (pa_cons (pv 1) (pa_cons (pv 0) pa_nil))))))
      (pss_one (ps_ret (pv 1))))), ?_⟩)
  · obtain ⟨_, _, _, _, _, rfl, _⟩ := h
    rfl
  · obtain ⟨p, m, R, E, w, rfl, hp, W, h60, El, lw, q⟩ := h
    obtain ⟨k0, k1, kk⟩ := idem W El lw
    have cl : ∀ u v : List Nat, ∀ s ∈ doW R u, s < (doW R v).length := fun u v s hs => by rw [doW_len]; exact doW_lt W s hs
    refine ⟨_, rfl, ?_⟩
    refine ⟨fun n σ' H' => ∃ (k : Nat) (p' : Addr), n = k0 - k ∧ 1 ≤ k ∧ k ≤ k0 ∧ σ' = [some (.ref p), some (.ref p')] ∧ Grows H H' ∧ H' p' = some (.tup ((doW R (pw w k)).map nV)) ∧ (doW R (w ++ w) = doW R w → k = 1),
      ⟨_, 1, p, rfl, Nat.le_refl 1, k1, rfl, Grows.refl H, by rw [pw_one]; exact hp, fun _ => rfl⟩, ?_⟩
    rintro n σ' H1 ⟨k, p', rfl, k2, k3, rfl, g1, hp', st⟩
    refine ⟨_, rfl, _, rfl, p', p', _, _, rfl, hp', hp', cl _ _, by rw [doW_len]; omega, fun H2 p2 g2 hp2 => ?_⟩
    rw [← doW_app W] at hp2
    refine ⟨_, rfl, _, _, dp_tup hp2, dp_tup (g2 _ _ hp'), shaped_tup _, shaped_tup _, _, rfl, ?_⟩
    rw [eqv_tup]
    by_cases c : doW R (pw w k ++ pw w k) = doW R (pw w k)
    · refine if_neg_of (by rw [decide_eq_true c]; decide) ?_
      exact ⟨_, rfl, q H2 p' k (g1.trans g2) k2 (g2 _ _ hp') c st⟩
    · refine if_pos_of (by rw [decide_eq_false c]; rfl) ?_
      have kne : k ≠ k0 := fun e => by rw [← e, pw_add] at kk; exact c kk
      refine ⟨fun σ' H' => ∃ (p'' : Addr), σ' = [some (.ref p), some (.ref p'')] ∧ Grows H H' ∧ H' p'' = some (.tup ((doW R (pw w (k + 1))).map nV)),
        fun σ' H' ⟨p'', a1, a2, a3⟩ => ⟨_, by omega, k + 1, p'', rfl, by omega, by omega, a1, a2, a3, fun e => ?_⟩, ?_⟩
      · have := st e
        subst this
        rw [pw_one] at c
        exact absurd e c
      · refine ⟨_, rfl, _, rfl, p', p, _, _, rfl, g2 _ _ hp', g2 _ _ (g1 _ _ hp), cl _ _, by rw [doW_len]; omega, fun H3 p3 g3 hp3 => ?_⟩
        rw [← doW_app W, ← pw_snoc] at hp3
        exact ⟨p3, rfl, (g1.trans g2).trans g3, hp3⟩
theorem scMono : FnScope NMo ["rows", "letters"] (defScope sMonoid) := ⟨rfl, rfl, rfl, by decide +kernel, rfl, by decide +kernel, by decide +kernel⟩
theorem ok_mono {f : Addr} {fd : FuncData} (F : L2.Fun K "_law_monoid" "_law_monoid" sMonoid f fd) (B : Blt mg) : FnOk P w K mg base CX0 1 f fd ["rows", "letters"] spMono := by
  refine F.ok scMono (fun vs H Q E h => ?_) (fun cdv A outer s H vs Q E hr h => ⟨_,
    (pss_cons (ps_par (i := 3) (j := 4) rfl scMono.nd rfl rfl (by decide) rfl rfl (pa_cons (pe_tupRg rfl (by rfl) B.tuple (prg_1 (by rfl) B.range (pe_callB call_len_seq (by rfl) B.len PySem.boot_len (pa_cons (pv 0) pa_nil)))) (pa_cons (pe_lc (own := [("at", 2)]) (g := (gName 2)) (tt := tYes) (te := (tCB (rTup K) (tCons (tLc (iList K (tVar 0)) (gName 8) tYes (tOp (rIxT K) (tOp (rIxT K) (tVar 8) (tC (.int 1))) (tVar 2)) [8]) tNil))) rfl scMono.nd (pi_range1 (by rfl) B.range (pa_cons (pe_callB call_len_str (by rfl) B.len PySem.boot_len (pa_cons (pv 1) pa_nil)) pa_nil)) (blkOk_by (N := NMo) (sc := defScope sMonoid) (by decide +kernel)) (fun _ _ _ _ _ => (pg_name (i := 2) scMono.nd rfl (Or.inr rfl))) (fun _ _ _ _ _ => pts_nil) (fun _ _ _ _ _ => (pe_callTy call_tuple_of (by rfl) B.tuple (by decide +kernel) (pa_cons (pe_lc (own := [("row", 8)]) (g := (gName 8)) (tt := tYes) (te := (tOp (rIxT K) (tOp (rIxT K) (tVar 8) (tC (.int 1))) (tVar 2))) rfl scMono.nd (pi_list (pv 0)) (blkOk_by (N := NMo) (sc := monScope) (by decide +kernel)) (fun _ _ _ _ _ => (pg_name (i := 8) scMono.nd rfl (Or.inl rfl))) (fun _ _ _ _ _ => pts_nil) (fun _ _ _ _ _ => (pe_ix ix_tup (pe_ix ix_tup (pv 8) pe_int (fun _ _ => rfl)) (pv 2) (fun _ _ => rfl)))) pa_nil)))) pa_nil)) rfl)
      (pss_cons (ps_par (i := 5) (j := 2) rfl scMono.nd rfl rfl (by decide) rfl rfl (pa_cons (pe_lst (pa_cons (pv 3) pa_nil)) (pa_cons pe_int pa_nil)) rfl)
      (pss_cons (ps_while PassesOwn.never (pt_cmpR op_lt (pv 2) (pe_callB call_len_seq (by rfl) B.len PySem.boot_len (pa_cons (pv 5) pa_nil)) (nomark _)) (pss_cons (ps_for PassesOwn.never rfl (pi_list (pv 4)) (pg_name (i := 6) scMono.nd rfl (Or.inr rfl)) (pss_cons (ps_set (i := 7) scMono.nd rfl (Or.inl rfl) (pe_callTy call_tuple_of (by rfl) B.tuple (by decide +kernel) (pa_cons (pe_lc (own := [("stand", 9)]) (g := (gName 9)) (tt := tYes) (te := (tOp (rIxT K) (tVar 6) (tVar 9))) rfl scMono.nd (pi_tup (pe_ix ix_list (pv 5) (pv 2) (fun _ _ => rfl))) (blkOk_by (N := NMo) (sc := defScope sMonoid) (by decide +kernel)) (fun _ _ _ _ _ => (pg_name (i := 9) scMono.nd rfl (Or.inl rfl))) (fun _ _ _ _ _ => pts_nil) (fun _ _ _ _ _ => (pe_ix ix_tup (pv 6) (pv 9) (fun _ _ => rfl)))) pa_nil)))
      (pss_one (ps_if (pt_cmpR (op_notInD (by have := hr.un; show (A.deeper _).units + 65 < _; omega)) (pv 7) (pv 5) rfl) (pss_one (ps_expr (pe_bm PySem.F.plainAttrs_list PySem.F.slot_list_append PySem.F.type_list_append mt_append (pv 5) (pa_cons (pv 7) pa_nil)))) pss_nil))))
      (pss_cons (ps_set (i := 2) scMono.nd rfl (Or.inl rfl) (pe_op op_add (pv 2) pe_int))
      (pss_one (ps_if (pt_cmpR op_gt (pe_callB call_len_seq (by rfl) B.len PySem.boot_len (pa_cons (pv 5) pa_nil)) pe_int (nomark _)) (pss_one (ps_ret pe_non)) pss_nil)))))
      (pss_one (ps_ret (pv 5)))))), ?_⟩)
  · obtain ⟨_, _, _, _, rfl, _⟩ := h
    rfl
  · obtain ⟨D, xs, R, ls, rfl, kD, kR, W, h60, hl4, q⟩ := h
    have sz : sizeLine = 16777216 := sizeLine_eq
    have wl := kR.len
    refine ⟨_, rfl, D, xs, rfl, .inl (.inl (.inl kD)), _, rfl, RgOk.of_le (by omega) (by omega) (by omega) (by omega), fun sp nsp => ?_⟩
    have esp : rgV 0 ((xs.length : Nat) : Int) = (doW R []).map nV := by
      unfold rgV
      rw [doW_nil, wl]
      have : (((R.length : Nat) : Int) - 0).toNat = R.length := by omega
      rw [this]
      exact List.map_congr_left fun i _ => congrArg V.int (by omega)
    rw [esp]
    have gS : Grows H (upd H sp (.tup ((doW R []).map nV))) := Grows.new nsp
    have kS : upd H sp (.tup ((doW R []).map nV)) sp = some (.tup ((doW R []).map nV)) := upd_same
    have kD1 := gS _ _ kD
    have kR1 := kR.grows gS
    generalize upd H sp (.tup ((doW R []).map nV)) = H1 at gS kS kD1 kR1 ⊢
    -- the signs
    refine ⟨_, rfl, ls, rfl, by omega, _, rfl, by omega, by omega, fun Sg nSg => ?_⟩
    refine lc_it walk_range (fun k H' => Grows H1 H' ∧ ∃ us : List V, H' Sg = some (.lst us) ∧ TupsAt H' us ((List.range k).map fun j => doW R [j])) ⟨Grows.new nSg, [], upd_same, rfl, fun k d h => by cases h⟩ (fun _ _ _ _ => trivial) ?_ ?_
    · rintro j y H2x H2 hj ⟨g2, us, kSg, tS⟩ ⟨rfl, rfl⟩
      have hj : j < ls.length := by omega
      have e0 : (fun i : Nat => V.int (0 + (i : Int))) j = nV j := congrArg V.int (by omega)
      rw [e0]
      refine ⟨rfl, ?_⟩
      refine ⟨_, rfl, D, rfl, ⟨_, .inl (.inl (g2 _ _ kD1))⟩, fun D2 nD2 => ?_⟩
      refine lc_it (walk_list (K := K) (a := D) (xs := xs)) (fun k H' => Grows H2 H' ∧ H' D2 = some (.lst (((List.range k).map fun s => toR R s j).map nV))) ⟨Grows.new nD2, upd_same⟩ (fun _ H' _ h => .inl (.inl (h.1 _ _ (g2 _ _ kD1)))) ?_ ?_
      · rintro k y H3x H3 hk ⟨g3, kD3⟩ ⟨rfl, hy⟩
        obtain ⟨r, hr, lr⟩ := W.row (show k < R.length by omega)
        obtain ⟨a, u, rfl, ha, hu⟩ := (kR1.grows g2).at_ k y r hy hr
        refine ⟨rfl, ?_⟩
        refine ⟨_, rfl, a, _, _, _, rfl, rfl, .inl (.inl (g3 _ _ ha)), atI_nat (j := 1) rfl, _, rfl, u, _, _, _, rfl, rfl, .inl (.inl (g3 _ _ hu)), atI_nat (j := j) (by rw [List.getElem?_map, (W.to (show k < R.length by omega) hj).2 _ hr]; rfl), _, kD3, by rw [List.length_map, List.length_map, List.length_range]; omega, fun c o e => ?_, ?_⟩
        · rw [upd_ne (ne_of_none e nD2)]
          exact g3 _ _ e
        · rw [upd_same, List.range_succ, List.map_append, List.map_append]
          rfl
      rintro H3 ⟨g3, kD3⟩
      refine ⟨D2, _, rfl, .inl ⟨.inl (.inl kD3), fun p np => ?_⟩⟩
      have gp := g3.trans (Grows.new (o := .tup (((List.range xs.length).map fun s => toR R s j).map nV)) np)
      have kp : upd H3 p (.tup (((List.range xs.length).map fun s => toR R s j).map nV)) p = some (.tup ((doW R [j]).map nV)) := by
        rw [upd_same, wl]
        rfl
      generalize upd H3 p (.tup (((List.range xs.length).map fun s => toR R s j).map nV)) = H4 at gp kp ⊢
      have kSg4 := gp _ _ kSg
      have tS4 := tS.tups fun b ys e => gp _ _ e
      have tp : ∀ b ys, H4 b = some (.tup ys) → upd H4 Sg (.lst (us ++ [.ref p])) b = some (.tup ys) := fun b ys e => by rw [upd_ne (ne_of e kSg4 (by intro z; cases z))]; exact e
      have ul := tS.len
      rw [List.length_map, List.length_range] at ul
      refine ⟨_, kSg4, by omega, fun c o e => ?_, _, upd_same, ?_⟩
      · rw [upd_ne (ne_of_none e nSg)]
        exact gp _ _ (g2 _ _ e)
      · rw [List.range_succ, List.map_append]
        exact (tS4.tups tp).snoc (tp _ _ kp)
    rintro H2 ⟨g2, us, kSg, tS⟩
    have el : (((ls.length : Nat) : Int)).toNat = ls.length := by omega
    rw [el] at tS
    refine ⟨_, _, rfl, ?_⟩
    have kS2 := g2 _ _ kS
    have gH2 := gS.trans g2
    clear gS kD1 kR1 nSg nsp esp
    -- found
    refine ⟨_, rfl, by show 1 ≤ sizeLine; omega, fun Fo nF => ?_⟩
    have gF : Grows H2 (upd H2 Fo (.lst [.ref sp])) := Grows.new nF
    have kF0 : upd H2 Fo (.lst [.ref sp]) Fo = some (.lst [.ref sp]) := upd_same
    have nF2 : ∀ {c o}, H2 c = some o → c ≠ Fo := fun e => ne_of_none e nF
    have T0 : TupsAt (upd H2 Fo (.lst [.ref sp])) [.ref sp] ([[]].map (doW R)) := ⟨rfl, fun k d hd => by
      cases k with
      | zero => rw [← Option.some.inj hd]; exact ⟨sp, rfl, gF _ _ kS2⟩
      | succ k => cases hd⟩
    generalize upd H2 Fo (.lst [.ref sp]) = H3 at gF kF0 T0 ⊢
    refine ⟨_, _, rfl, ?_⟩
    have M0 : MonOk ls.length R [[]] 0 0 := ⟨by simp, (fun u hu => by rw [List.mem_singleton.mp hu]; exact Lw.nil), rfl, fun i u _ j _ h => by omega⟩
    refine ⟨fun n σ' H' => ∃ (ws : List (List Nat)) (fs : List V) (k : Nat) (v6 v7 v8 v9 : Option V), n = 30 - k ∧ σ' = [some (.ref D), some (.str ls), some (nV k), some (.ref sp), some (.ref Sg), some (.ref Fo), v6, v7, v8, v9] ∧ Grows H2 H' ∧ H' Fo = some (.lst fs) ∧ TupsAt H' fs (ws.map (doW R)) ∧ MonOk ls.length R ws k 0 ∧ ws.length ≤ 24,
      ⟨_, [[]], _, 0, _, _, _, _, rfl, rfl, gF, kF0, T0, M0, by decide⟩, ?_⟩
    clear gF kF0 T0 M0
    rintro n σ' H4 ⟨ws, fs, k, v6, v7, v8, v9, rfl, rfl, g4, kF, tF, M, w24⟩
    have fl := tF.len
    rw [List.length_map] at fl
    refine ⟨_, rfl, _, rfl, Fo, fs, rfl, .inl (.inl (.inl kF)), _, _, rfl, rfl, _, rfl, ?_⟩
    by_cases c : k < ws.length
    · refine if_pos_of (decide_eq_true (by omega)) ?_
      refine ⟨fun σ' H' => ∃ (ws : List (List Nat)) (fs : List V) (v6 v7 v8 v9 : Option V), σ' = [some (.ref D), some (.str ls), some (nV (k + 1)), some (.ref sp), some (.ref Sg), some (.ref Fo), v6, v7, v8, v9] ∧ Grows H2 H' ∧ H' Fo = some (.lst fs) ∧ TupsAt H' fs (ws.map (doW R)) ∧ MonOk ls.length R ws (k + 1) 0 ∧ ws.length ≤ 24,
        fun σ' H' ⟨ws, fs, v6, v7, v8, v9, a1, a2, a3, a4, a5, a6⟩ => ⟨_, by omega, ws, fs, k + 1, v6, v7, v8, v9, rfl, a1, a2, a3, a4, a5, a6⟩, ?_⟩
      refine ⟨_, rfl, Sg, rfl, ⟨_, .inl (.inl (g4 _ _ kSg))⟩, for_it (walk_list (K := K) (a := Sg) (xs := us)) (fun j σ' H' => ∃ (ws' : List (List Nat)) (fs : List V) (v6 v7 v8 v9 : Option V), σ' = [some (.ref D), some (.str ls), some (nV k), some (.ref sp), some (.ref Sg), some (.ref Fo), v6, v7, v8, v9] ∧ Grows H2 H' ∧ H' Fo = some (.lst fs) ∧ TupsAt H' fs (ws'.map (doW R)) ∧ MonOk ls.length R ws' k j ∧ ws'.length ≤ 24 + j ∧ k < ws'.length)
        ⟨ws, fs, _, _, _, _, rfl, g4, kF, tF, M, by omega, c⟩ (fun _ _ H' _ ⟨_, _, _, _, _, _, _, h, _⟩ => .inl (.inl (h _ _ kSg))) ?_ ?_⟩
      · rintro j y σ H5x H5 hj ⟨ws', fs', v6, v7, v8, v9, rfl, g5, kF5, tF5, M5, w5, k5⟩ ⟨rfl, hy⟩
        have ul := tS.len
        rw [List.length_map, List.length_range] at ul
        have hj : j < ls.length := by rw [← ul]; exact hj
        have hd : ((List.range ls.length).map fun j => doW R [j])[j]? = some (doW R [j]) := by rw [List.getElem?_map, List.getElem?_range hj]; rfl
        obtain ⟨q1, sq1, sq2⟩ := tS.at_ j _ hd
        have hy : us[j]? = some y := hy
        rw [sq1] at hy
        obtain rfl := Option.some.inj hy
        have sq5 := g5 _ _ sq2
        obtain ⟨w, hw⟩ : ∃ w, ws'[k]? = some w := ⟨_, List.getElem?_eq_getElem k5⟩
        have hdw : (ws'.map (doW R))[k]? = some (doW R w) := by rw [List.getElem?_map, hw]; rfl
        obtain ⟨pa, pa1, pa2⟩ := tF5.at_ k _ hdw
        have lw : Lw ls.length w := M5.lw w (List.mem_of_getElem? hw)
        refine ⟨_, rfl, _, rfl, Fo, fs', _, .ref pa, rfl, rfl, .inl (.inl kF5), atI_nat (j := k) pa1, pa, rfl, ⟨_, .inl (.inl pa2)⟩, fun D3 nD3 => ?_⟩
        refine comp1 (I := doW R w) (gv := nV) (i := 9) (tt := tYes) (te := (tOp (rIxT K) (tVar 6) (tVar 9))) (G := fun H => SqT K H pa ((doW R w).map nV)) (by have := walk_tup (K := K) (a := pa) (xs := (doW R w).map nV); rw [List.length_map] at this; exact this) (fun _ => true) (fun s => nV (runR R s [j])) nD3 (fun H' g => .inl (.inl (g _ _ pa2)))
          (by rw [doW_len]; omega) (fun s H k _ g hk => hk H (Grows.refl H)) (fun s H' Q hs _ g hq => ?_) (fun H6 g6 kD3 => ?_)
        · exact ⟨_, rfl, _, rfl, q1, _, _, _, rfl, rfl, .inl (.inl (g _ _ sq5)), atI_nat (j := s) (by rw [List.getElem?_map, doW_at (doW_lt W s hs)]; rfl), hq H' (Grows.refl H')⟩
        rw [filter_yes] at kD3
        have eD : (doW R w).map (fun s => nV (runR R s [j])) = (doW R (w ++ [j])).map nV := by rw [doW_step W, List.map_map]; rfl
        rw [eD] at kD3
        refine ⟨D3, _, rfl, .inl ⟨.inl (.inl kD3), fun p np => ?_⟩⟩
        have gp := g6.trans (Grows.new (o := .tup ((doW R (w ++ [j])).map nV)) np)
        have kp : upd H6 p (.tup ((doW R (w ++ [j])).map nV)) p = some (.tup ((doW R (w ++ [j])).map nV)) := upd_same
        have kF7 := gp _ _ kF5
        have tF7 := tF5.tups fun b ys e => gp _ _ e
        have g7 := g5.trans gp
        generalize upd H6 p (.tup ((doW R (w ++ [j])).map nV)) = H7 at kp kF7 tF7 g7 ⊢
        clear gp np kD3 nD3 g6 kF5 tF5 g5
        have fl7 := tF7.len
        rw [List.length_map] at fl7
        have lwj : Lw ls.length (w ++ [j]) := lw.app fun a ha => by rw [List.mem_singleton.mp ha]; exact hj
        refine ⟨_, rfl, _, rfl, dTup (doW R (w ++ [j])), (ws'.map (doW R)).map dTup, dp_tup kp, .lst (.inl (.inl kF7)) tF7.dp, shaped_tup _, shaped_tups _, _, rfl, ?_⟩
        rw [any_tup]
        by_cases hm : doW R (w ++ [j]) ∈ ws'.map (doW R)
        · refine if_neg_of (by rw [decide_eq_true hm]; decide) ?_
          exact ⟨ws', fs', _, _, _, _, rfl, g7, kF7, tF7, M5.here hw hm, by omega, k5⟩
        · refine if_pos_of (by rw [decide_eq_false hm]; rfl) ?_
          refine ⟨_, rfl, .inl ⟨rfl, _, .inl (.inl kF7)⟩, _, rfl, Fo, _, _, rfl, rfl, kF7, by omega, ?_⟩
          have M8 := (M5.more k5 lwj hm).here (ext_get hw) (by rw [List.map_append]; exact List.mem_append_right _ List.mem_cons_self)
          have tp : ∀ b ys, H7 b = some (.tup ys) → upd H7 Fo (.lst (fs' ++ [.ref p])) b = some (.tup ys) := fun b ys e => by rw [upd_ne (ne_of e kF7 (by intro z; cases z))]; exact e
          refine ⟨ws' ++ [w ++ [j]], _, _, _, _, _, rfl, fun c o e => by rw [upd_ne (nF2 e)]; exact g7 _ _ e, upd_same, ?_, M8, by rw [List.length_append, List.length_singleton]; omega, by rw [List.length_append]; omega⟩
          rw [List.map_append]
          exact (tF7.tups tp).snoc (tp _ _ kp)
      · rintro σ H5 ⟨ws', fs', v6, v7, v8, v9, rfl, g5, kF5, tF5, M5, w5, k5⟩
        have ul := tS.len
        rw [List.length_map, List.length_range] at ul
        rw [ul] at M5 w5
        have fl5 := tF5.len
        rw [List.length_map] at fl5
        have M6 : MonOk ls.length R ws' (k + 1) 0 := ⟨M5.nd, M5.lw, M5.fst, fun i u hu a ha h => M5.cl i u hu a ha (by omega)⟩
        refine ⟨_, rfl, _, _, rfl, rfl, ?_⟩
        refine ⟨_, rfl, Fo, fs', rfl, .inl (.inl (.inl kF5)), _, _, rfl, rfl, _, rfl, ?_⟩
        have e1 : (fun i j : Int => V.int (i + j)) (k : Int) 1 = nV (k + 1) := congrArg V.int (by omega)
        by_cases c2 : 24 < ws'.length
        · refine if_pos_of (decide_eq_true (by omega)) ?_
          exact q H5 .non (gH2.trans g5) (.inl rfl)
        · refine if_neg_of (by rw [decide_eq_false (by omega)]; decide) ?_
          exact ⟨ws', fs', _, _, _, _, by rw [← e1]; rfl, g5, kF5, tF5, M6, by omega⟩
    · refine if_neg_of (by rw [decide_eq_false (by omega)]; decide) ?_
      exact ⟨_, rfl, q H4 _ (gH2.trans g4) (.inr ⟨Fo, fs, ws, rfl, kF, tF, M.lw, M.elems W (by omega), w24⟩)⟩
end
end SWL
set_option Elab.async false
set_option linter.all false
set_option maxRecDepth 100000
set_option maxHeartbeats 8000000
namespace SWL
open PySem PySem.Spec PyProof.Rows L2 LamX NdefX
/-! the law's own judging -/
def DSet (H : Hp) (N : Addr) (n : Nat) (S : List Nat → Prop) : Prop := ∃ kvs : List (List L2.Key × V), H N = some (.dT kvs) ∧ kvs.length ≤ n ∧ (∀ kv ∈ kvs, ∃ d, kv.1 = keyD d ∧ S d) ∧ ∀ d, S d → ∃ v, (keyD d, v) ∈ kvs
theorem DSet.keep {H H' : Hp} {N : Addr} {n : Nat} {S : List Nat → Prop} (g : ∀ o, H N = some o → H' N = some o) (h : DSet H N n S) : DSet H' N n S := let ⟨kvs, h1, h2⟩ := h; ⟨kvs, g _ h1, h2⟩
theorem DSet.cong {H : Hp} {N : Addr} {n : Nat} {S S' : List Nat → Prop} (h : DSet H N n S) (k : ∀ d, S d ↔ S' d) : DSet H N n S' := let ⟨kvs, h1, h2, h3, h4⟩ := h; ⟨kvs, h1, h2, fun kv m => let ⟨d, a, b⟩ := h3 kv m; ⟨d, a, (k d).mp b⟩, fun d s => h4 d ((k d).mpr s)⟩
theorem putK_cases {kvs : List (List L2.Key × V)} {k : List L2.Key} {v : V} : (putK kvs k v).length ≤ kvs.length + 1 ∧ (∀ kv ∈ putK kvs k v, kv.1 = k ∨ ∃ kv' ∈ kvs, kv'.1 = kv.1) ∧ (∃ u, (k, u) ∈ putK kvs k v) ∧ ∀ kv ∈ kvs, ∃ u, (kv.1, u) ∈ putK kvs k v := by
  unfold putK
  by_cases c : (kvs.any fun kv => decide (kv.1 = k)) = true
  · rw [if_pos c]
    obtain ⟨kv0, m0, e0⟩ := List.any_eq_true.mp c
    have e0 := of_decide_eq_true e0
    refine ⟨by rw [List.length_map]; omega, fun kv h => ?_, ⟨v, List.mem_map.mpr ⟨kv0, m0, by rw [if_pos e0, e0]⟩⟩, fun kv h => ?_⟩
    · obtain ⟨a, ha, rfl⟩ := List.mem_map.mp h
      refine .inr ⟨a, ha, ?_⟩
      by_cases d : a.1 = k
      · rw [if_pos d]
      · rw [if_neg d]
    · by_cases d : kv.1 = k
      · exact ⟨v, List.mem_map.mpr ⟨kv, h, by rw [if_pos d]⟩⟩
      · exact ⟨kv.2, List.mem_map.mpr ⟨kv, h, by rw [if_neg d]⟩⟩
  · rw [if_neg c]
    refine ⟨by rw [List.length_append]; exact Nat.le_refl _, fun kv h => ?_, ⟨v, List.mem_append_right _ List.mem_cons_self⟩, fun kv h => ⟨kv.2, List.mem_append_left _ h⟩⟩
    rcases List.mem_append.mp h with h | h
    · exact .inr ⟨kv, h, rfl⟩
    · rw [List.mem_singleton.mp h]; exact .inl rfl
theorem DSet.put {H : Hp} {N : Addr} {n : Nat} {S : List Nat → Prop} {d : List Nat} {kvs : List (List L2.Key × V)} {v : V} (h2 : kvs.length ≤ n) (h3 : ∀ kv ∈ kvs, ∃ d, kv.1 = keyD d ∧ S d) (h4 : ∀ d, S d → ∃ v, (keyD d, v) ∈ kvs) : DSet (upd H N (.dT (putK kvs (keyD d) v))) N (n + 1) (fun e => S e ∨ e = d) := by
  obtain ⟨p1, p2, p3, p4⟩ := putK_cases (kvs := kvs) (k := keyD d) (v := v)
  refine ⟨_, upd_same, by omega, fun kv h => ?_, fun e he => ?_⟩
  · rcases p2 kv h with e | ⟨kv', m, e⟩
    · exact ⟨d, e, .inr rfl⟩
    · obtain ⟨a, e2, s⟩ := h3 kv' m
      exact ⟨a, e.symm.trans e2, .inl s⟩
  · rcases he with h | h
    · obtain ⟨u, m⟩ := h4 e h
      exact p4 _ m
    · rw [h]; exact p3
def spIsTurned : Sp := fun vs H Q _ => ∃ (D : Addr) (xs : List V) (R : List Rw) (ls : Str), vs = [.ref D, .str ls] ∧ H D = some (.lst xs) ∧ RowsAt H xs R ∧ WfR ls.length R ∧ R.length ≤ 60 ∧ ls.length ≤ 4 ∧
  ∀ (H' : Hp) (v : V), Grows H H' → (v = .non ∨ ∃ (b : Bool) (ws : List (List Nat)), v = .bl b ∧ (b = true ↔ DA ls.length R) ∧ Elems ls.length R (ws.map (doW R)) ∧ ws.length ≤ 24) → Q v H'
abbrev NTu : List Str := ["rows", "letters", "every", "y", "seen", "x", "stills_now", "xy", "z", "e"]
/-- what is right of a doing among the stills of y -/
def SnS (m : Nat) (R : List Rw) (wy : List Nat) (d : List Nat) : Prop := ∃ e x z, Lw m e ∧ Lw m x ∧ Lw m z ∧ d = doW R e ∧ doW R (e ++ e) = doW R e ∧ doW R e = doW R (x ++ wy ++ z)
section
variable {P : Program} {w : World} {K : PySem.W.Frag} {mg : Str → Option Value} {base : Heap}
theorem scLTu : FnScope NTu ["rows", "letters"] (defScope sIsTurned) := ⟨rfl, rfl, rfl, by decide +kernel, rfl, by decide +kernel, by decide +kernel⟩
theorem ok_lTu {f fM fB fS : Addr} {fd fdM fdB fdS : FuncData} (F : L2.Fun K "_law_is_turned" "_law_is_turned" sIsTurned f fd) (B : Blt mg)
    (GMo : FnOk P w K mg base CX0 1 fM fdM ["rows", "letters"] spMono) (DMo : Def mg K "_law_monoid" fM fdM ["rows", "letters"])
    (GBh : FnOk P w K mg base CX0 1 fB fdB ["one", "other"] spLawBeh) (DBh : Def mg K "_law_behind" fB fdB ["one", "other"])
    (GSt : FnOk P w K mg base CX0 2 fS fdS ["one"] spStill) (DSt : Def mg K "_law_still" fS fdS ["one"]) : FnOk P w K mg base CX0 3 f fd ["rows", "letters"] spIsTurned := by
  refine F.ok scLTu (fun vs H Q E h => ?_) (fun cdv A outer s H vs Q E hr h => ⟨_,
    (pss_cons (ps_set (i := 2) scLTu.nd rfl (Or.inl rfl) (pe_call GMo (hr.mono (by decide)) (by rfl) DMo.g DMo.k DMo.b .nil pass0 (pa_cons (pv 0) (pa_cons (pv 1) pa_nil))))
      (pss_cons (ps_if (pt_cmpR op_isN (pv 2) pe_non (nomark _)) (pss_one (ps_ret pe_non)) pss_nil)
      (pss_cons (ps_for PassesOwn.never rfl (pi_list (pv 2)) (pg_name (i := 3) scLTu.nd rfl (Or.inl rfl)) (pss_cons (ps_set (i := 4) scLTu.nd rfl (Or.inl rfl) pe_dnewT)
      (pss_cons (ps_for PassesOwn.never rfl (pi_list (pv 2)) (pg_name (i := 5) scLTu.nd rfl (Or.inl rfl)) (pss_one (ps_dput (hu_of hr) (pv 4) (pe_call GBh (hr.mono (by decide)) (by rfl) DBh.g DBh.k DBh.b .nil pass0 (pa_cons (pv 5) (pa_cons (pv 3) pa_nil))) pe_bl rfl)))
      (pss_cons (ps_set (i := 6) scLTu.nd rfl (Or.inl rfl) pe_dnewT)
      (pss_cons (ps_lock (ps_for PassesOwn.never rfl (pi_keys (pv 4)) (pg_name (i := 7) scLTu.nd rfl (Or.inl rfl)) (pss_one (ps_for PassesOwn.never rfl (pi_list (pv 2)) (pg_name (i := 8) scLTu.nd rfl (Or.inl rfl)) (pss_one (ps_dput (hu_of hr) (pv 6) (pe_call GSt (hr.mono (by decide)) (by rfl) DSt.g DSt.k DSt.b .nil pass0 (pa_cons (pe_call GBh (hr.mono (by decide)) (by rfl) DBh.g DBh.k DBh.b .nil pass0 (pa_cons (pv 7) (pa_cons (pv 8) pa_nil))) pa_nil)) pe_bl rfl))))))
      (pss_one (ps_lock (ps_for PassesOwn.never rfl (pi_keys (pv 6)) (pg_name (i := 9) scLTu.nd rfl (Or.inl rfl)) (pss_one (ps_if (pt_cmpR (op_neD (by have := hr.un; show (A.deeper _).units + 64 < _; omega)) (pe_call GBh (hr.mono (by decide)) (by rfl) DBh.g DBh.k DBh.b .nil pass0 (pa_cons (pe_call GBh (hr.mono (by decide)) (by rfl) DBh.g DBh.k DBh.b .nil pass0 (pa_cons (pv 9) (pa_cons (pv 3) pa_nil))) (pa_cons (pv 9) pa_nil))) (pv 9) (nomark _)) (pss_one (ps_ret pe_bl)) pss_nil))))))))))
      (pss_one (ps_ret pe_bl))))), ?_⟩)
  · obtain ⟨_, _, _, _, rfl, _⟩ := h
    rfl
  · obtain ⟨D, xs, R, ls, rfl, kD, kR, W, h60, hl4, q⟩ := h
    have sz : sizeLine = 16777216 := sizeLine_eq
    have cl : ∀ u v : List Nat, ∀ s ∈ doW R u, s < (doW R v).length := fun u v s hs => by rw [doW_len]; exact doW_lt W s hs
    refine ⟨_, rfl, _, rfl, D, xs, R, ls, rfl, kD, kR, W, h60, hl4, fun H1 v g1 hv => ?_⟩
    rcases hv with rfl | ⟨p, us, ws, rfl, kE, tE, lwE, El, w24⟩
    · refine ⟨_, rfl, rfl, _, rfl, if_pos_of rfl (q H1 .non g1 (.inl rfl))⟩
    refine ⟨_, rfl, rfl, _, rfl, if_neg_of (by rw [decide_eq_false (by intro z; cases z)]; decide) ?_⟩
    have ul := tE.len
    rw [List.length_map] at ul
    have el : ∀ {H' : Hp} {j : Nat}, Grows H1 H' → j < ws.length → ∃ pj wj, us[j]? = some (.ref pj) ∧ ws[j]? = some wj ∧ Lw ls.length wj ∧ H' pj = some (.tup ((doW R wj).map nV)) := by
      intro H' j g hj
      have e : ws[j]? = some ws[j] := List.getElem?_eq_getElem hj
      have hd : (ws.map (doW R))[j]? = some (doW R ws[j]) := by rw [List.getElem?_map, e]; rfl
      obtain ⟨pj, a, b⟩ := tE.at_ _ _ hd
      exact ⟨pj, _, a, e, lwE _ (List.mem_of_getElem? e), g _ _ b⟩
    refine ⟨_, rfl, p, rfl, ⟨_, .inl (.inl kE)⟩, for_it (walk_list (K := K) (a := p) (xs := us)) (fun n σ H' => ∃ (v3 v4 v5 v6 v7 v8 v9 : Option V), σ = [some (.ref D), some (.str ls), some (.ref p), v3, v4, v5, v6, v7, v8, v9] ∧ Grows H1 H' ∧ ∀ i wy, i < n → ws[i]? = some wy → ∀ e x z, Lw ls.length e → Lw ls.length x → Lw ls.length z → doW R (e ++ e) = doW R e → doW R e = doW R (x ++ wy ++ z) → doW R (e ++ wy ++ e) = doW R e)
      ⟨_, _, _, _, _, _, _, rfl, Grows.refl H1, fun i wy h => absurd h (Nat.not_lt_zero i)⟩ (fun _ _ H' _ ⟨_, _, _, _, _, _, _, _, h, _⟩ => .inl (.inl (h _ _ kE))) ?_ ?_⟩
    rotate_left
    · rintro σ H2 ⟨v3, v4, v5, v6, v7, v8, v9, rfl, g2, done⟩
      refine q H2 _ (g1.trans g2) (.inr ⟨true, ws, rfl, ⟨fun _ => ?_, fun _ => rfl⟩, El, w24⟩)
      intro e x y z he hx hy hz e1 e2
      obtain ⟨wy, m1, m2⟩ := List.mem_map.mp (El.all y hy)
      obtain ⟨i, hi⟩ := List.getElem?_of_mem m1
      have := done i wy (by rw [ul]; exact (List.getElem?_eq_some_iff.mp hi).1) hi e x z he hx hz e1 (by rw [e2, doW_cong W (doW_cong W (rfl : doW R x = _) m2.symm) (rfl : doW R z = _)])
      rw [← doW_cong W (doW_cong W (rfl : doW R e = _) m2) (rfl : doW R e = _), this]
    rintro n y σ H2x H2 hn ⟨v3, v4, v5, v6, v7, v8, v9, rfl, g2, done⟩ ⟨rfl, hy⟩
    have hn : n < ws.length := by rw [← ul]; exact hn
    obtain ⟨py, wy, py1, hwy, lwy, _⟩ := el g2 hn
    have hy : us[n]? = some y := hy
    rw [py1] at hy
    obtain rfl := Option.some.inj hy
    have tup : ∀ {H' : Hp} {j : Nat} {wj : List Nat} {pj : Addr}, Grows H1 H' → us[j]? = some (.ref pj) → ws[j]? = some wj → H' pj = some (.tup ((doW R wj).map nV)) := by
      intro H' j wj pj g h1 h2
      have hd : (ws.map (doW R))[j]? = some (doW R wj) := by rw [List.getElem?_map, h2]; rfl
      obtain ⟨pj, a, b⟩ := tE.at_ _ _ hd
      rw [h1] at a
      obtain rfl := V.ref.inj (Option.some.inj a)
      exact g _ _ b
    -- seen
    refine fun N1 nN1 => ?_
    have n1 : H1 N1 = none := g2.not_new nN1
    have gN : Grows H1 (upd H2 N1 (.dT [])) := g2.trans (Grows.new nN1)
    refine ⟨_, rfl, p, rfl, ⟨_, .inl (.inl (gN _ _ kE))⟩, for_it (walk_list (K := K) (a := p) (xs := us)) (fun k σ H' => (∃ v5, σ = [some (.ref D), some (.str ls), some (.ref p), some (.ref py), some (.ref N1), v5, v6, v7, v8, v9]) ∧ Grows H1 H' ∧ DSet H' N1 k (fun d => ∃ i wx, i < k ∧ ws[i]? = some wx ∧ d = doW R (wx ++ wy)))
      ⟨⟨_, rfl⟩, gN, [], upd_same, Nat.le_refl 0, (fun kv h => by cases h), fun d ⟨i, _, h, _⟩ => absurd h (Nat.not_lt_zero i)⟩ (fun _ _ H' _ h => .inl (.inl (h.2.1 _ _ kE))) ?_ ?_⟩
    · rintro k y σ H3x H3 hk ⟨⟨v5, rfl⟩, g3, kvs, k1, k2, k3, k4⟩ ⟨rfl, hy⟩
      have hk : k < ws.length := by rw [← ul]; exact hk
      obtain ⟨px, wx, px1, hwx, lwx, px2⟩ := el g3 hk
      have hy : us[k]? = some y := hy
      rw [px1] at hy
      obtain rfl := Option.some.inj hy
      refine ⟨_, rfl, _, rfl, _, rfl, px, py, _, _, rfl, px2, tup g3 py1 hwy, cl _ _, by rw [doW_len]; omega, fun H4 pp g4 kp => ?_⟩
      rw [← doW_app W] at kp
      refine ⟨N1, _, rfl, DPut.t (k := keyD (doW R (wx ++ wy))) (g4 _ _ k1) (by rw [keyD_vals]; exact kp) (by omega), ⟨_, rfl⟩, fun c o e => by rw [upd_ne (ne_of_none e n1)]; exact g4 _ _ (g3 _ _ e), ?_⟩
      have := DSet.put (H := H4) (N := N1) (d := doW R (wx ++ wy)) (v := .bl true) k2 k3 k4
      refine this.cong fun d => ⟨fun h => ?_, fun ⟨i, wi, h1, h2, h3⟩ => ?_⟩
      · rcases h with ⟨i, wi, h1, h2, h3⟩ | h
        · exact ⟨i, wi, by omega, h2, h3⟩
        · exact ⟨k, wx, by omega, hwx, h⟩
      · by_cases c : i < k
        · exact .inl ⟨i, wi, c, h2, h3⟩
        · obtain rfl : i = k := by omega
          rw [hwx] at h2
          rw [← Option.some.inj h2] at h3
          exact .inr h3
    rintro σ H3 ⟨⟨v5, rfl⟩, g3, d3⟩
    rw [ul] at d3
    obtain ⟨kvs1, k1, k2, k3, k4⟩ := d3
    refine fun N2 nN2 => ?_
    have n2 : H1 N2 = none := g3.not_new nN2
    have N12 : N1 ≠ N2 := ne_of_none k1 nN2
    have g4 : Grows H1 (upd H3 N2 (.dT [])) := g3.trans (Grows.new nN2)
    have k1' : upd H3 N2 (.dT []) N1 = some (.dT kvs1) := by rw [upd_ne N12]; exact k1
    have kN2 : upd H3 N2 (.dT []) N2 = some (.dT []) := upd_same
    generalize upd H3 N2 (.dT []) = H4 at g4 k1' kN2 ⊢
    clear g3 k1 nN2
    -- the stills
    refine ⟨N1, _, k1', True.intro, fun od => ?_⟩
    have g5 : Grows H1 (upd H4 N1 (.frz od (.dT kvs1))) := fun c o e => by rw [upd_ne (ne_of_none e n1)]; exact g4 _ _ e
    have kf5 : upd H4 N1 (.frz od (.dT kvs1)) N1 = some (.frz od (.dT kvs1)) := upd_same
    have kN5 : upd H4 N1 (.frz od (.dT kvs1)) N2 = some (.dT []) := by rw [upd_ne N12.symm]; exact kN2
    generalize upd H4 N1 (.frz od (.dT kvs1)) = H5 at g5 kf5 kN5 ⊢
    clear g4 k1' kN2
    refine ⟨_, rfl, N1, od, rfl, .inr ⟨kvs1, kf5, for_it walk_keysT (fun a σ H' => (∃ v7 v8, σ = [some (.ref D), some (.str ls), some (.ref p), some (.ref py), some (.ref N1), v5, some (.ref N2), v7, v8, v9]) ∧ Grows H1 H' ∧ H' N1 = some (.frz od (.dT kvs1)) ∧ ∃ S, DSet H' N2 (24 * a) S ∧ (∀ d, S d → SnS ls.length R wy d) ∧ ∀ (a' b' : Nat) (dk : List L2.Key × V) (wz e : List Nat), a' < a → kvs1[a']? = some dk → ws[b']? = some wz → Lw ls.length e → doW R (e ++ e) = doW R e → (∀ wx, dk.1 = keyD (doW R wx) → doW R e = doW R (wx ++ wz)) → S (doW R e))
      ⟨⟨_, _, rfl⟩, g5, kf5, (fun _ => False), ⟨[], kN5, Nat.zero_le _, (fun kv h => by cases h), fun d h => h.elim⟩, (fun d h => h.elim), fun a' b' dk wz e h => absurd h (Nat.not_lt_zero a')⟩ (fun _ _ H' _ h => h.2.2.1) ?_ ?_⟩⟩
    · rintro a y σ H6x H6 ha ⟨⟨v7, v8, rfl⟩, g6, kf6, S, dS, snd, cmpl⟩ ⟨rfl, key, vv, qk, hk, rfl, hq⟩
      obtain ⟨d0, ed0, i0, wx, _, hwx, rfl⟩ := k3 _ (List.mem_of_getElem? hk)
      have ed0 : key = keyD (doW R (wx ++ wy)) := ed0
      subst ed0
      rw [keyD_vals] at hq
      have lwx := lwE wx (List.mem_of_getElem? hwx)
      refine ⟨_, rfl, p, rfl, ⟨_, .inl (.inl (g6 _ _ kE))⟩, for_it (walk_list (K := K) (a := p) (xs := us)) (fun b σ H' => (∃ v8, σ = [some (.ref D), some (.str ls), some (.ref p), some (.ref py), some (.ref N1), v5, some (.ref N2), some (.ref qk), v8, v9]) ∧ Grows H1 H' ∧ H' N1 = some (.frz od (.dT kvs1)) ∧ H' qk = some (.tup ((doW R (wx ++ wy)).map nV)) ∧ ∃ S, DSet H' N2 (24 * a + b) S ∧ (∀ d, S d → SnS ls.length R wy d) ∧ ∀ (a' b' : Nat) (dk : List L2.Key × V) (wz e : List Nat), (a' < a ∨ (a' = a ∧ b' < b)) → kvs1[a']? = some dk → ws[b']? = some wz → Lw ls.length e → doW R (e ++ e) = doW R e → (∀ wx, dk.1 = keyD (doW R wx) → doW R e = doW R (wx ++ wz)) → S (doW R e))
        ⟨⟨_, rfl⟩, g6, kf6, hq, S, dS, snd, fun a' b' dk wz e h => cmpl a' b' dk wz e (by omega)⟩ (fun _ _ H' _ h => .inl (.inl (h.2.1 _ _ kE))) ?_ ?_⟩
      · rintro b y σ H7x H7 hb ⟨⟨v8, rfl⟩, g7, kf7, hq7, S, ⟨kv2, s1, s2, s3, s4⟩, snd, cmpl⟩ ⟨rfl, hy⟩
        have hb : b < ws.length := by rw [← ul]; exact hb
        obtain ⟨pz, wz, pz1, hwz, lwz, pz2⟩ := el g7 hb
        have hy : us[b]? = some y := hy
        rw [pz1] at hy
        obtain rfl := Option.some.inj hy
        refine ⟨_, rfl, _, rfl, _, rfl, qk, pz, _, _, rfl, hq7, pz2, cl _ _, by rw [doW_len]; omega, fun H8 pp g8 kp => ?_⟩
        rw [← doW_app W] at kp
        have lv : Lw ls.length (wx ++ wy ++ wz) := (lwx.app lwy).app lwz
        refine ⟨pp, ls.length, R, _, wx ++ wy ++ wz, rfl, kp, W, h60, El, lv, fun H9 p9 k g9 k1' kp9 idm one => ?_⟩
        have g79 := g8.trans g9
        have al : a ≤ 24 := by have := (List.getElem?_eq_some_iff.mp hk).1; omega
        refine ⟨N2, _, rfl, DPut.t (k := keyD (doW R (pw (wx ++ wy ++ wz) k))) (g79 _ _ s1) (by rw [keyD_vals]; exact kp9) (by omega), ⟨_, rfl⟩, fun c o e => by rw [upd_ne (ne_of_none e n2)]; exact g79 _ _ (g7 _ _ e), by rw [upd_ne N12]; exact g79 _ _ kf7, by rw [upd_ne (ne_of (g79 _ _ hq7) (g79 _ _ s1) (by intro z; cases z))]; exact g79 _ _ hq7, _, DSet.put (H := H9) (N := N2) s2 s3 s4, fun d hd => ?_, fun a' b' dk wz' e h1 h2 h3 h4 h5 h6 => ?_⟩
        · rcases hd with h | rfl
          · exact snd d h
          · refine ⟨pw (wx ++ wy ++ wz) k, wx, wz ++ pw (wx ++ wy ++ wz) (k - 1), pw_lw lv k, lwx, lwz.app (pw_lw lv _), rfl, idm, ?_⟩
            conv => lhs; rw [show k = (k - 1) + 1 by omega, pw_succ]
            simp only [List.append_assoc]
        · by_cases c : a' < a ∨ (a' = a ∧ b' < b)
          · exact .inl (cmpl a' b' dk wz' e c h2 h3 h4 h5 h6)
          · obtain ⟨rfl, rfl⟩ : a' = a ∧ b' = b := by omega
            rw [hk] at h2
            rw [hwz] at h3
            obtain rfl := Option.some.inj h3
            have e1 := h6 (wx ++ wy) (by rw [← Option.some.inj h2])
            have k1e := one (by rw [doW_cong W e1.symm e1.symm, h5, e1])
            subst k1e
            rw [pw_one]
            exact .inr e1
      · rintro σ H7 ⟨⟨v8, rfl⟩, g7, kf7, hq7, S, dS, snd, cmpl⟩
        rw [ul] at dS cmpl
        refine ⟨⟨_, _, rfl⟩, g7, kf7, S, ?_, snd, fun a' b' dk wz e h h2 h3 => cmpl a' b' dk wz e ?_ h2 h3⟩
        · obtain ⟨kv2, s1, s2, s3⟩ := dS
          exact ⟨kv2, s1, by omega, s3⟩
        · have := (List.getElem?_eq_some_iff.mp h3).1
          omega
    · rintro σ H6 ⟨⟨v7, v8, rfl⟩, g6, kf6, S, dS, snd, cmpl⟩
      refine ⟨kf6, ?_⟩
      have g7 : Grows H1 (upd H6 N1 (.dT kvs1)) := fun c o e => by rw [upd_ne (ne_of_none e n1)]; exact g6 _ _ e
      have dS := dS.keep (H' := upd H6 N1 (.dT kvs1)) fun o e => by rw [upd_ne N12.symm]; exact e
      generalize upd H6 N1 (.dT kvs1) = H7 at g7 dS ⊢
      clear g6 kf6 g5 kf5 kN5
      obtain ⟨kvs2, s1, s2, s3, s4⟩ := dS
      -- judged
      have full : ∀ e x z, Lw ls.length e → Lw ls.length x → Lw ls.length z → doW R (e ++ e) = doW R e → doW R e = doW R (x ++ wy ++ z) → S (doW R e) := fun e x z he hx hz e1 e2 => by
        obtain ⟨wx, m1, m2⟩ := List.mem_map.mp (El.all x hx)
        obtain ⟨i, hi⟩ := List.getElem?_of_mem m1
        obtain ⟨wz, m3, m4⟩ := List.mem_map.mp (El.all z hz)
        obtain ⟨b, hb⟩ := List.getElem?_of_mem m3
        obtain ⟨vv, hm⟩ := k4 (doW R (wx ++ wy)) ⟨i, wx, (List.getElem?_eq_some_iff.mp hi).1, hi, rfl⟩
        obtain ⟨a, ha⟩ := List.getElem?_of_mem hm
        refine cmpl a b _ wz e (List.getElem?_eq_some_iff.mp ha).1 ha hb he e1 fun w2 hw2 => ?_
        have := keyD_inj hw2
        rw [← doW_cong W this (rfl : doW R wz = _), e2, doW_cong W (doW_cong W m2 (rfl : doW R wy = _)) m4]
      refine ⟨N2, _, s1, True.intro, fun od2 => ?_⟩
      have g8 : Grows H1 (upd H7 N2 (.frz od2 (.dT kvs2))) := fun c o e => by rw [upd_ne (ne_of_none e n2)]; exact g7 _ _ e
      have kf8 : upd H7 N2 (.frz od2 (.dT kvs2)) N2 = some (.frz od2 (.dT kvs2)) := upd_same
      generalize upd H7 N2 (.frz od2 (.dT kvs2)) = H8 at g8 kf8 ⊢
      refine ⟨_, rfl, N2, od2, rfl, .inr ⟨kvs2, kf8, for_it walk_keysT (fun a σ H' => (∃ v9, σ = [some (.ref D), some (.str ls), some (.ref p), some (.ref py), some (.ref N1), v5, some (.ref N2), v7, v8, v9]) ∧ Grows H1 H' ∧ H' N2 = some (.frz od2 (.dT kvs2)) ∧ ∀ (a' : Nat) (dk : List L2.Key × V) (e : List Nat), a' < a → kvs2[a']? = some dk → dk.1 = keyD (doW R e) → doW R (e ++ wy ++ e) = doW R e)
        ⟨⟨_, rfl⟩, g8, kf8, fun a' dk e h => absurd h (Nat.not_lt_zero a')⟩ (fun _ _ H' _ h => h.2.2.1) ?_ ?_⟩⟩
      · rintro a y σ H9x H9 ha ⟨⟨v9, rfl⟩, g9, kf9, ok⟩ ⟨rfl, key, vv, qk, hk, rfl, hq⟩
        obtain ⟨d0, ed0, sd⟩ := s3 _ (List.mem_of_getElem? hk)
        have ed0 : key = keyD d0 := ed0
        subst ed0
        obtain ⟨e, x, z, he, hx, hz, rfl, e1, e2⟩ := snd _ sd
        rw [keyD_vals] at hq
        refine ⟨_, rfl, _, rfl, qk, py, _, _, rfl, hq, tup g9 py1 hwy, cl _ _, by rw [doW_len]; omega, fun H10 p10 g10 kp10 => ?_⟩
        rw [← doW_app W] at kp10
        refine ⟨_, rfl, p10, qk, _, _, rfl, kp10, g10 _ _ hq, cl _ _, by rw [doW_len]; omega, fun H11 p11 g11 kp11 => ?_⟩
        rw [← doW_app W] at kp11
        have g911 := g10.trans g11
        refine ⟨_, rfl, _, _, dp_tup kp11, dp_tup (g911 _ _ hq), shaped_tup _, shaped_tup _, _, rfl, ?_⟩
        rw [eqv_tup]
        by_cases c : doW R (e ++ wy ++ e) = doW R e
        · refine if_neg_of (by rw [decide_eq_true c]; decide) ?_
          refine ⟨⟨_, rfl⟩, g9.trans g911, g911 _ _ kf9, fun a' dk e' h1 h2 h3 => ?_⟩
          by_cases ca : a' < a
          · exact ok a' dk e' ca h2 h3
          · obtain rfl : a' = a := by omega
            rw [hk] at h2
            rw [← Option.some.inj h2] at h3
            have := keyD_inj h3
            rw [← doW_cong W (doW_cong W this (rfl : doW R wy = _)) this, c, this]
        · refine if_pos_of (by rw [decide_eq_false c]; rfl) ?_
          refine ⟨g911 _ _ kf9, ?_⟩
          refine q _ _ (g1.trans ?_) (.inr ⟨false, ws, rfl, ⟨fun h => (by cases h), fun da => absurd (da e x wy z he hx lwy hz e1 e2) c⟩, El, w24⟩)
          intro c o ec
          rw [upd_ne (ne_of_none ec n2)]
          exact g911 _ _ (g9 _ _ ec)
      · rintro σ H9 ⟨⟨v9, rfl⟩, g9, kf9, ok⟩
        refine ⟨kf9, _, _, _, _, _, _, _, rfl, fun c o ec => by rw [upd_ne (ne_of_none ec n2)]; exact g9 _ _ ec, fun i w' hi hw' e x z he hx hz e1 e2 => ?_⟩
        by_cases c : i < n
        · exact done i w' c hw' e x z he hx hz e1 e2
        · obtain rfl : i = n := by omega
          rw [hwy] at hw'
          obtain rfl := Option.some.inj hw'
          obtain ⟨vv, hm⟩ := s4 _ (full e x z he hx hz e1 e2)
          obtain ⟨a, ha⟩ := List.getElem?_of_mem hm
          exact ok a _ e (List.getElem?_eq_some_iff.mp ha).1 ha rfl
end
end SWL
set_option Elab.async false
set_option linter.all false
set_option maxRecDepth 100000
set_option maxHeartbeats 8000000
namespace SWL
open PySem PySem.Spec PyProof.Rows L2 LamX NdefX
/-! drawn tables -/
theorem But.tups {H H' : Hp} {a g : Addr} (x : But H H' a g) (o : Off H a g) : ∀ b xs, H b = some (.tup xs) → H' b = some (.tup xs) := fun b xs e => by
  obtain ⟨ks, h1⟩ := o.st
  obtain ⟨ys, h2⟩ := o.gr
  exact x b _ e (ne_of e h1 (by intro z; cases z)) (ne_of e h2 (by intro z; cases z))
theorem But.none {H H' : Hp} {a g : Addr} (x : But H H' a g) {b : Addr} (n : H' b = none) (h1 : b ≠ a) (h2 : b ≠ g) : H b = none := by
  cases e : H b with
  | none => rfl
  | some o => rw [x b o e h1 h2] at n; cases n
theorem SAt.put {H : Hp} {a g c R : Addr} {cs : List Int} {n : Nat} (s : SAt H a g c cs n) (h1 : R ≠ a) (h2 : R ≠ g) (h3 : R ≠ c) (o : HO) : SAt (upd H R o) a g c cs n := by
  obtain ⟨gs, r, t, e1, e2, e3, e4⟩ := s.ex
  exact ⟨gs, r, t, by rw [upd_ne h1.symm]; exact e1, by rw [upd_ne h2.symm]; exact e2, by rw [upd_ne h3.symm]; exact e3, e4⟩
theorem SAt.fresh {H : Hp} {a g c R : Addr} {cs : List Int} {n : Nat} (s : SAt H a g c cs n) (h : H R = none) : R ≠ a ∧ R ≠ g ∧ R ≠ c := by
  obtain ⟨gs, r, t, e1, e2, e3, e4⟩ := s.ex
  exact ⟨(ne_of_none e1 h).symm, (ne_of_none e2 h).symm, (ne_of_none e3 h).symm⟩
theorem RowAt.tups {H H' : Hp} (g : ∀ b xs, H b = some (.tup xs) → H' b = some (.tup xs)) {v : V} {r : Rw} (h : RowAt H v r) : RowAt H' v r := by
  obtain ⟨a, t, h1, h2, h3⟩ := h
  exact ⟨a, t, h1, g _ _ h2, g _ _ h3⟩
theorem RowsAt.tups {H H' : Hp} (g : ∀ b xs, H b = some (.tup xs) → H' b = some (.tup xs)) {vs : List V} {R : List Rw} (h : RowsAt H vs R) : RowsAt H' vs R := ⟨h.len, fun k v r h1 h2 => (h.at_ k v r h1 h2).tups g⟩
theorem tos_lc {te : TE} {σ : L2.St} {H : Hp} {Q : VK} {a g c : Addr} {cs : List Int} {n0 K : Nat} {ls : Str} (hs : SAt H a g c cs n0) (h1 : σ[1]? = some (some (.str ls))) (hl : ls.length ≤ 1000)
    (hte : ∀ (i : Nat) (H' : Hp) (ch : Nat) (Q : VK), i < ls.length → SAt H' a g c cs (n0 + i) → (∀ (H2 : Hp) (x : Nat), x < K → SAt H2 a g c cs (n0 + i + 1) → But H' H2 a g → Q (nV x) H2) → te ((σ.set 7 none).set 7 (some (.str (sg ch)))) H' Q)
    (hq : ∀ (T : Addr) (H6 : Hp) (is : List Nat), SAt H6 a g c cs (n0 + ls.length) → But H H6 a g → H T = none → H6 T = some (.lst (is.map nV)) → is.length = ls.length → (∀ t ∈ is, t < K) → Q (.ref T) H6) : tLc (iStr (tVar 1)) (gName 7) tYes te [7] σ H Q := by
  have sz : sizeLine = 16777216 := sizeLine_eq
  refine ⟨_, h1, ls, rfl, fun T nT => ?_⟩
  obtain ⟨Ta, Tg, Tc⟩ := hs.fresh nT
  refine lc_it (walk_str (z := ls)) (fun i H' => SAt H' a g c cs (n0 + i) ∧ But H H' a g ∧ ∃ is : List Nat, H' T = some (.lst (is.map nV)) ∧ is.length = i ∧ ∀ t ∈ is, t < K) ⟨hs.grows (Grows.new nT), But.of (Grows.new nT), [], upd_same, rfl, fun t h => by cases h⟩ (fun _ _ _ _ => trivial) ?_ ?_
  · rintro i x H1x H1 hi ⟨s1, b1, is, kT, li, pi⟩ ⟨rfl, ch, hch, rfl⟩
    have hi : i < ls.length := hi
    refine ⟨by show (((σ.set 7 none).set 7 (some (V.str ⟨#[ch]⟩))).set 7 none) = σ.set 7 none; simp, ?_⟩
    refine hte i H1 ch _ hi s1 fun H2 x hx s2 b2 => ?_
    have kT2 := b2 T _ kT Ta Tg
    refine ⟨_, kT2, by rw [List.length_map]; omega, s2.put Ta Tg Tc _, fun b o e h1 h2 => ?_, is ++ [x], by rw [upd_same, List.map_append]; rfl, by rw [List.length_append, li]; rfl, fun t ht => ?_⟩
    · rw [upd_ne (ne_of_none e nT)]
      exact b2 _ _ (b1 _ _ e h1 h2) h1 h2
    · rcases List.mem_append.mp ht with h | h
      · exact pi t h
      · rw [List.mem_singleton.mp h]; exact hx
  · rintro H1 ⟨s1, b1, is, kT, li, pi⟩
    exact hq T H1 is s1 b1 nT kT li pi
def spSomeRows : Sp := fun vs H Q _ => ∃ (a g c : Addr) (cs : List Int) (n : Nat) (ls : Str), vs = [.ref a, .str ls] ∧ SAt H a g c cs n ∧ n + 400 ≤ 1000000 ∧ ls.length ≤ 10 ∧
  ∀ (H' : Hp) (D : Addr) (ws : List V) (R : List Rw), H D = none → H' D = some (.lst ws) → RowsAt H' ws R → WfR ls.length R → R.length ≤ 4 → SAt H' a g c cs (n + 400) → But H H' a g → Q (.ref D) H'
abbrev NSr : List Str := ["state", "letters", "many", "way", "rows", "at", "tos", "letter"]
section
variable {P : Program} {w : World} {K : PySem.W.Frag} {mg : Str → Option Value} {base : Heap}
theorem scSomeR : FnScope NSr ["state", "letters"] (defScope sSomeRows) := ⟨rfl, rfl, rfl, by decide +kernel, rfl, by decide +kernel, by decide +kernel⟩
theorem ok_someR {f fD fP : Addr} {fd fdD fdP : FuncData} (F : L2.Fun K "_law_some_rows" "_law_some_rows" sSomeRows f fd) (B : Blt mg) (GD : FnOk P w K mg base CX0 2 fD fdD ["state", "room"] spDraw) (DD : Def mg K "_law_draw" fD fdD ["state", "room"])
    (GP : FnOk P w K mg base CX0 3 fP fdP ["state", "some"] spPick) (DP : Def mg K "_law_pick" fP fdP ["state", "some"]) : FnOk P w K mg base CX0 4 f fd ["state", "letters"] spSomeRows := by
  refine F.ok scSomeR (fun vs H Q E h => ?_) (fun cdv A outer s H vs Q E hr h => ⟨_,
    (pss_cons (ps_asg (pe_tup (pa_cons (pe_op op_add pe_int (pe_call GD (hr.mono (by decide)) (by rfl) DD.g DD.k DD.b .nil pass0 (pa_cons (pv 0) (pa_cons pe_int pa_nil)))) (pa_cons (pe_call GD (hr.mono (by decide)) (by rfl) DD.g DD.k DD.b .nil pass0 (pa_cons (pv 0) (pa_cons pe_int pa_nil))) (pa_cons (pe_lst pa_nil) pa_nil)))) (pg_tup rfl (pgs_cons (pg_name (i := 2) scSomeR.nd rfl (Or.inr rfl)) (pgs_cons (pg_name (i := 3) scSomeR.nd rfl (Or.inl rfl)) (pgs_cons (pg_name (i := 4) scSomeR.nd rfl (Or.inl rfl)) pgs_nil)))))
      (pss_cons (ps_for PassesOwn.never rfl (pi_range1 (by rfl) B.range (pa_cons (pv 2) pa_nil)) (pg_name (i := 5) scSomeR.nd rfl (Or.inr rfl)) (pss_cons (ps_if (pt_cmpR op_eq (pv 3) pe_int (nomark _)) (pss_one (ps_setLc (i := 6) (own := [("letter", 7)]) (g := (gName 7)) (tt := tYes) (te := (tCall spDraw [] E0 (tCons (tVar 0) (tCons (tVar 2) tNil)))) rfl scSomeR.nd rfl rfl (sw_true rfl rfl rfl (by decide +kernel)) (pi_str (pv 1)) (blkOk_by (N := NSr) (sc := defScope sSomeRows) (by decide +kernel)) (fun _ _ _ _ _ => (pg_name (i := 7) scSomeR.nd rfl (Or.inl rfl))) (fun _ _ _ _ _ => pts_nil) (fun _ _ _ _ _ => (pe_call GD (hr.mono (by decide)) (by rfl) DD.g DD.k DD.b .nil pass0 (pa_cons (pv 0) (pa_cons (pv 2) pa_nil)))))) (pss_one (ps_if (pt_cmpR op_eq (pv 3) pe_int (nomark _)) (pss_one (ps_setLc (i := 6) (own := [("letter", 7)]) (g := (gName 7)) (tt := tYes) (te := (tOp rAdd (tVar 5) (tCall spDraw [] E0 (tCons (tVar 0) (tCons (tOp rSub (tVar 2) (tVar 5)) tNil))))) rfl scSomeR.nd rfl rfl (sw_true rfl rfl rfl (by decide +kernel)) (pi_str (pv 1)) (blkOk_by (N := NSr) (sc := defScope sSomeRows) (by decide +kernel)) (fun _ _ _ _ _ => (pg_name (i := 7) scSomeR.nd rfl (Or.inl rfl))) (fun _ _ _ _ _ => pts_nil) (fun _ _ _ _ _ => (pe_op op_add (pv 5) (pe_call GD (hr.mono (by decide)) (by rfl) DD.g DD.k DD.b .nil pass0 (pa_cons (pv 0) (pa_cons (pe_op op_sub (pv 2) (pv 5)) pa_nil))))))) (pss_one (ps_if (pt_cmpR op_eq (pv 3) pe_int (nomark _)) (pss_one (ps_setLc (i := 6) (own := [("letter", 7)]) (g := (gName 7)) (tt := tYes) (te := (tCall spPick [] E0 (tCons (tVar 0) (tCons (tLst (tCons (tVar 5) (tCons (tCB (fun xs H Q => ∃ i j : Int, xs = [.int i, .int j] ∧ Q (.int (if j < i then j else i)) H) (tCons (tOp rAdd (tVar 5) (tC (.int 1))) (tCons (tOp rSub (tVar 2) (tC (.int 1))) tNil))) (tCons (tC (.int 0)) tNil)))) tNil)))) rfl scSomeR.nd rfl rfl (sw_true rfl rfl rfl (by decide +kernel)) (pi_str (pv 1)) (blkOk_by (N := NSr) (sc := defScope sSomeRows) (by decide +kernel)) (fun _ _ _ _ _ => (pg_name (i := 7) scSomeR.nd rfl (Or.inl rfl))) (fun _ _ _ _ _ => pts_nil) (fun _ _ _ _ _ => (pe_call GP (hr.mono (by decide)) (by rfl) DP.g DP.k DP.b .nil pass0 (pa_cons (pv 0) (pa_cons (pe_lst (pa_cons (pv 5) (pa_cons (pe_callB (call_min2 rfl) (by rfl) B.min (by decide +kernel) (pa_cons (pe_op op_add (pv 5) pe_int) (pa_cons (pe_op op_sub (pv 2) pe_int) pa_nil))) (pa_cons pe_int pa_nil)))) pa_nil)))))) (pss_one (ps_setLc (i := 6) (own := [("letter", 7)]) (g := (gName 7)) (tt := tYes) (te := (tCall spPick [] E0 (tCons (tVar 0) (tCons (tLst (tCons (tVar 5) (tCons (tCB (fun xs H Q => ∃ i j : Int, xs = [.int i, .int j] ∧ Q (.int (if j < i then j else i)) H) (tCons (tOp rAdd (tVar 5) (tC (.int 1))) (tCons (tOp rSub (tVar 2) (tC (.int 1))) tNil))) (tCons (tCB (fun xs H Q => ∃ i j : Int, xs = [.int i, .int j] ∧ Q (.int (if j < i then j else i)) H) (tCons (tOp rAdd (tVar 5) (tC (.int 1))) (tCons (tOp rSub (tVar 2) (tC (.int 1))) tNil))) (tCons (tOp rSub (tVar 2) (tC (.int 1))) tNil))))) tNil)))) rfl scSomeR.nd rfl rfl (sw_true rfl rfl rfl (by decide +kernel)) (pi_str (pv 1)) (blkOk_by (N := NSr) (sc := defScope sSomeRows) (by decide +kernel)) (fun _ _ _ _ _ => (pg_name (i := 7) scSomeR.nd rfl (Or.inl rfl))) (fun _ _ _ _ _ => pts_nil) (fun _ _ _ _ _ => (pe_call GP (hr.mono (by decide)) (by rfl) DP.g DP.k DP.b .nil pass0 (pa_cons (pv 0) (pa_cons (pe_lst (pa_cons (pv 5) (pa_cons (pe_callB (call_min2 rfl) (by rfl) B.min (by decide +kernel) (pa_cons (pe_op op_add (pv 5) pe_int) (pa_cons (pe_op op_sub (pv 2) pe_int) pa_nil))) (pa_cons (pe_callB (call_min2 rfl) (by rfl) B.min (by decide +kernel) (pa_cons (pe_op op_add (pv 5) pe_int) (pa_cons (pe_op op_sub (pv 2) pe_int) pa_nil))) (pa_cons (pe_op op_sub (pv 2) pe_int) pa_nil))))) pa_nil)))))))))))
      (pss_one (ps_expr (pe_bm PySem.F.plainAttrs_list PySem.F.slot_list_append PySem.F.type_list_append mt_append (pv 4) (pa_cons (pe_tup (pa_cons (pe_cmpR op_eq (pe_call GD (hr.mono (by decide)) (by rfl) DD.g DD.k DD.b .nil pass0 (pa_cons (pv 0) (pa_cons pe_int pa_nil))) pe_int (nomark _)) (pa_cons (pe_callTy call_tuple_of (by rfl) B.tuple (by decide +kernel) (pa_cons (pv 6) pa_nil)) pa_nil))) pa_nil))))))
      (pss_one (ps_ret (pv 4))))), ?_⟩)
  · obtain ⟨_, _, _, _, _, _, rfl, _⟩ := h
    rfl
  · obtain ⟨a, g, c, cs, n, ls, rfl, hs, hn, hl, q⟩ := h
    have sz : sizeLine = 16777216 := sizeLine_eq
    have lsl : ls.cps.size = ls.length := rfl
    refine ⟨_, rfl, a, g, c, cs, n, 4, rfl, hs, by omega, by decide, by decide, fun H1 k k0 k1 s1 b1 => ⟨_, _, rfl, rfl, _, rfl, a, g, c, cs, _, 4, rfl, s1, by omega, by decide, by decide, fun H2 wy w0 w1 s2 b2 => ⟨by show 0 ≤ sizeLine; omega, fun D nD => ?_⟩⟩⟩
    obtain ⟨k, rfl⟩ : ∃ j : Nat, k = j := ⟨k.toNat, by omega⟩
    have b2 := b1.trans b2
    clear s1 b1
    have ek : (fun i j : Int => V.int (i + j)) 1 (k : Int) = nV (k + 1) := congrArg V.int (by omega)
    obtain ⟨Da, Dg, Dc⟩ := s2.fresh nD
    have nDH := b2.none nD Da Dg
    have s3 := s2.grows (Grows.new (o := .lst []) nD)
    have b3 : But H (upd H2 D (.lst [])) a g := b2.trans (But.of (Grows.new nD))
    have k3 : upd H2 D (.lst []) D = some (.lst []) := upd_same
    generalize upd H2 D (.lst []) = H3 at s3 b3 k3 ⊢
    clear s2 b2 nD
    rw [ek]
    refine ⟨by show 3 ≤ sizeLine; omega, fun T nT => ?_⟩
    have gT := Grows.new (H := H3) (o := .tup [nV (k + 1), .int wy, .ref D]) nT
    refine ⟨T, _, rfl, .inl (.inl upd_same), rfl, _, _, rfl, _, _, rfl, _, _, rfl, rfl, ?_⟩
    have s3 := s3.grows gT
    have b3 := b3.trans (But.of gT)
    have k3 := gT _ _ k3
    generalize upd H3 T (.tup [nV (k + 1), .int wy, .ref D]) = H4 at s3 b3 k3 ⊢
    clear gT nT
    refine ⟨_, rfl, _, rfl, by omega, by omega, for_it walk_range (fun j σ H' => (∃ v5 v6 v7 : Option V, σ = [some (.ref a), some (.str ls), some (nV (k + 1)), some (.int wy), some (.ref D), v5, v6, v7]) ∧ SAt H' a g c cs (n + 2 + 31 * j) ∧ But H H' a g ∧ ∃ ws R, H' D = some (.lst ws) ∧ RowsAt H' ws R ∧ R.length = j ∧ ∀ r ∈ R, r.2.length = ls.length ∧ ∀ t ∈ r.2, t < k + 1)
      ⟨⟨_, _, _, rfl⟩, s3, b3, [], [], k3, ⟨rfl, fun k v r h => by cases h⟩, rfl, fun r h => by cases h⟩ (fun _ _ _ _ _ => trivial) ?_ ?_⟩
    · rintro j x σ H4x H4 hj ⟨⟨v5, v6, v7, rfl⟩, s4, b4, ws, R, kD, hR, lR, pR⟩ ⟨rfl, rfl⟩
      have hj : j < k + 1 := by omega
      have e0 : (fun i : Nat => V.int (0 + (i : Int))) j = nV j := congrArg V.int (by omega)
      rw [e0]
      have nD4 : ∀ {b o}, H b = some o → b ≠ a → b ≠ g → b ≠ D := fun e h1 h2 => ne_of_none e nDH
      -- behind the tos
      dsimp only [gName, tSeq, tNext, tAsg]
      refine (?_ : tIfS _ _ _ ?D1 _ _)
      have fin : ∀ (H6 : Hp) (T : Addr) (is : List Nat), SAt H6 a g c cs (n + 2 + 31 * j + 10) → But H H6 a g → T ≠ a → T ≠ g → T ≠ D → H6 D = some (.lst ws) → RowsAt H6 ws R → H6 T = some (.lst (is.map nV)) → is.length = ls.length → (∀ t ∈ is, t < k + 1) → Ends.nx ?D1 [some (.ref a), some (.str ls), some (nV (k + 1)), some (.int wy), some (.ref D), some (nV j), some (.ref T), v7] H6 := fun H6 T is s6 b6 Ta Tg TD kD6 hR6 kT6 lis pis => ?_
      rotate_left
      · refine ⟨_, rfl, .inl ⟨rfl, _, .inl (.inl kD6)⟩, ?_⟩
        refine ⟨_, rfl, a, g, c, cs, _, _, rfl, s6, by omega, by decide, by decide, fun H7 u u0 u1 s7 b7 => ⟨rfl, ?_⟩⟩
        have kT7 := b7 T _ kT6 Ta Tg
        have kD7 := b7 D _ kD6 Da Dg
        have hR7 := hR6.tups (b7.tups s6.off)
        refine ⟨_, rfl, T, _, rfl, .inl ⟨.inl (.inl kT7), fun p np => ?_⟩⟩
        have g8 : Grows H7 (upd H7 p (.tup (is.map nV))) := Grows.new np
        have k8 : upd H7 p (.tup (is.map nV)) p = some (.tup (is.map nV)) := upd_same
        have s8 := s7.grows g8
        have b8 := (b6.trans b7).trans (But.of g8)
        have kD8 := g8 _ _ kD7
        have hR8 := hR7.grows g8
        generalize upd H7 p (.tup (is.map nV)) = H8 at g8 k8 s8 b8 kD8 hR8 ⊢
        refine ⟨by show 2 ≤ sizeLine; omega, fun y ny => ?_⟩
        have g9 : Grows H8 (upd H8 y (.tup [.bl (decide (V.int u = V.int 0)), .ref p])) := Grows.new ny
        have k9 : upd H8 y (.tup [.bl (decide (V.int u = V.int 0)), .ref p]) y = some (.tup [.bl (decide (V.int u = V.int 0)), .ref p]) := upd_same
        have row : RowAt (upd H8 y (.tup [.bl (decide (V.int u = V.int 0)), .ref p])) (.ref y) (decide (V.int u = V.int 0), is) := ⟨y, p, rfl, k9, g9 _ _ k8⟩
        have s9 := s8.grows g9
        have b9 := b8.trans (But.of g9)
        have kD9 := g9 _ _ kD8
        have hR9 := hR8.grows g9
        have wl := hR.len
        refine ⟨D, _, _, rfl, rfl, kD9, by omega, ⟨_, _, _, rfl⟩, (s9.put Da Dg Dc _).mono (by omega), fun b o e h1 h2 => ?_, ws ++ [.ref y], R ++ [(decide (V.int u = V.int 0), is)], upd_same, (hR9.snoc row).put kD9, by rw [List.length_append, lR]; rfl, fun r hr => ?_⟩
        · rw [upd_ne (nD4 e h1 h2)]
          exact b9 b o e h1 h2
        · rcases List.mem_append.mp hr with h | h
          · exact pR r h
          · rw [List.mem_singleton.mp h]
            exact ⟨lis, pis⟩
      have fin2 : ∀ (T : Addr) (H6 : Hp) (is : List Nat), SAt H6 a g c cs (n + 2 + 31 * j + ls.length) → But H4 H6 a g → H4 T = none → H6 T = some (.lst (is.map nV)) → is.length = ls.length → (∀ t ∈ is, t < k + 1) → Ends.nx ?D1 [some (.ref a), some (.str ls), some (nV (k + 1)), some (.int wy), some (.ref D), some (nV j), some (.ref T), v7] H6 := fun T H6 is s6 b6 nT kT l p => by
        obtain ⟨Ta, Tg, Tc⟩ := s4.fresh nT
        exact fin H6 T is (s6.mono (by omega)) (b4.trans b6) Ta Tg (ne_of_none kD nT).symm (b6 _ _ kD Da Dg) (hR.tups (b6.tups s4.off)) kT l p
      refine ⟨_, rfl, rfl, _, rfl, ?_⟩
      by_cases c0 : wy = 0
      · refine if_pos_of (decide_eq_true (congrArg V.int c0)) ?_
        refine tos_lc (K := k + 1) s4 rfl (by omega) (fun i H' ch Q hi s5 hq => ?_) (fun T H6 is h1 h2 h3 h4 h5 h6 => fin2 T H6 is h1 h2 h3 h4 h5 h6)
        refine ⟨_, rfl, _, rfl, a, g, c, cs, _, _, rfl, s5, by omega, by omega, by omega, fun H6 t t0 t1 s6 b6 => ?_⟩
        obtain ⟨t, rfl⟩ : ∃ j : Nat, t = j := ⟨t.toNat, by omega⟩
        exact hq H6 t (by omega) s6 b6
      refine if_neg_of (by rw [decide_eq_false (fun e => c0 (V.int.inj e))]; decide) ?_
      refine ⟨_, rfl, rfl, _, rfl, ?_⟩
      by_cases c1 : wy = 1
      · refine if_pos_of (decide_eq_true (congrArg V.int c1)) ?_
        refine tos_lc (K := k + 1) s4 rfl (by omega) (fun i H' ch Q hi s5 hq => ?_) (fun T H6 is h1 h2 h3 h4 h5 h6 => fin2 T H6 is h1 h2 h3 h4 h5 h6)
        refine ⟨_, rfl, _, rfl, _, rfl, _, rfl, _, _, rfl, rfl, a, g, c, cs, _, _, rfl, s5, by omega, by omega, by omega, fun H6 t t0 t1 s6 b6 => ⟨_, _, rfl, rfl, ?_⟩⟩
        obtain ⟨t, rfl⟩ : ∃ j : Nat, t = j := ⟨t.toNat, by omega⟩
        rw [show V.int ((j : Int) + (t : Int)) = nV (j + t) from congrArg V.int (by omega)]
        exact hq H6 (j + t) (by omega) s6 b6
      refine if_neg_of (by rw [decide_eq_false (fun e => c1 (V.int.inj e))]; decide) ?_
      have emin : V.int (if (((k + 1 : Nat) : Int) - 1) < ((j : Int) + 1) then (((k + 1 : Nat) : Int) - 1) else ((j : Int) + 1)) = nV (min (j + 1) k) := congrArg V.int (by split <;> omega)
      refine ⟨_, rfl, rfl, _, rfl, ?_⟩
      by_cases c2 : wy = 2
      · refine if_pos_of (decide_eq_true (congrArg V.int c2)) ?_
        refine tos_lc (K := k + 1) s4 rfl (by omega) (fun i H' ch Q hi s5 hq => ?_) (fun T H6 is h1 h2 h3 h4 h5 h6 => fin2 T H6 is h1 h2 h3 h4 h5 h6)
        refine ⟨_, rfl, _, rfl, _, rfl, _, _, rfl, rfl, _, rfl, _, _, rfl, rfl, _, _, rfl, by show 3 ≤ sizeLine; omega, fun l nl => ?_⟩
        obtain ⟨la, lg, lc⟩ := s5.fresh nl
        have gl : Grows H' (upd H' l (.lst [nV j, V.int (if (((k + 1 : Nat) : Int) - 1) < ((j : Int) + 1) then (((k + 1 : Nat) : Int) - 1) else ((j : Int) + 1)), .int 0])) := Grows.new nl
        refine ⟨a, g, c, l, cs, _, _, rfl, s5.grows gl, by omega, upd_same, lg, (by intro z; cases z), (by show 3 ≤ 1000000; decide), fun H6 x hx s6 b6 => ?_⟩
        rw [emin] at hx
        simp only [List.mem_cons, List.not_mem_nil, or_false] at hx
        rcases hx with rfl | rfl | rfl
        · exact hq H6 j (by omega) s6 ((But.of gl).trans b6)
        · exact hq H6 _ (by omega) s6 ((But.of gl).trans b6)
        · exact hq H6 0 (by omega) s6 ((But.of gl).trans b6)
      refine if_neg_of (by rw [decide_eq_false (fun e => c2 (V.int.inj e))]; decide) ?_
      refine tos_lc (K := k + 1) s4 rfl (by omega) (fun i H' ch Q hi s5 hq => ?_) (fun T H6 is h1 h2 h3 h4 h5 h6 => fin2 T H6 is h1 h2 h3 h4 h5 h6)
      refine ⟨_, rfl, _, rfl, _, rfl, _, _, rfl, rfl, _, rfl, _, _, rfl, rfl, _, _, rfl, _, rfl, _, _, rfl, rfl, _, rfl, _, _, rfl, rfl, _, _, rfl, _, rfl, _, _, rfl, rfl, by show 4 ≤ sizeLine; omega, fun l nl => ?_⟩
      obtain ⟨la, lg, lc⟩ := s5.fresh nl
      have gl : Grows H' (upd H' l (.lst [nV j, V.int (if (((k + 1 : Nat) : Int) - 1) < ((j : Int) + 1) then (((k + 1 : Nat) : Int) - 1) else ((j : Int) + 1)), V.int (if (((k + 1 : Nat) : Int) - 1) < ((j : Int) + 1) then (((k + 1 : Nat) : Int) - 1) else ((j : Int) + 1)), .int (((k + 1 : Nat) : Int) - 1)])) := Grows.new nl
      refine ⟨a, g, c, l, cs, _, _, rfl, s5.grows gl, by omega, upd_same, lg, (by intro z; cases z), (by show 4 ≤ 1000000; decide), fun H6 x hx s6 b6 => ?_⟩
      rw [emin, show V.int (((k + 1 : Nat) : Int) - 1) = nV k from congrArg V.int (by omega)] at hx
      simp only [List.mem_cons, List.not_mem_nil, or_false] at hx
      rcases hx with rfl | rfl | rfl | rfl
      · exact hq H6 j (by omega) s6 ((But.of gl).trans b6)
      · exact hq H6 _ (by omega) s6 ((But.of gl).trans b6)
      · exact hq H6 _ (by omega) s6 ((But.of gl).trans b6)
      · exact hq H6 k (by omega) s6 ((But.of gl).trans b6)
    · rintro σ H4 ⟨⟨v5, v6, v7, rfl⟩, s4, b4, ws, R, kD, hR, lR, pR⟩
      have e : ((k + 1 : Nat) : Int).toNat = k + 1 := by omega
      rw [e] at s4 lR
      refine ⟨_, rfl, q H4 D ws R nDH kD hR ⟨by omega, fun i r hr => (pR r (List.mem_of_getElem? hr)).1, fun i r hr u t ht => ?_⟩ (by omega) (s4.mono (by omega)) b4⟩
      have := (pR r (List.mem_of_getElem? hr)).2 t (List.mem_of_getElem? ht)
      omega
end
end SWL
set_option Elab.async false
set_option linter.all false
set_option maxRecDepth 100000
set_option maxHeartbeats 8000000
namespace SWL
open PySem PySem.Spec PyProof.Rows L2 LamX NdefX
/-! three tables by themselves; words so often -/
def wfB (m : Nat) (R : List Rw) : Bool := decide (0 < R.length) && R.all fun r => decide (r.2.length = m) && r.2.all fun t => decide (t < R.length)
theorem wf_b {m : Nat} {R : List Rw} (h : wfB m R = true) : WfR m R := by
  unfold wfB at h
  simp only [Bool.and_eq_true, List.all_eq_true, decide_eq_true_eq] at h
  exact ⟨h.1, fun k r hr => (h.2 r (List.mem_of_getElem? hr)).1, fun k r hr j t ht => (h.2 r (List.mem_of_getElem? hr)).2 t (List.mem_of_getElem? ht)⟩
def elB (m : Nat) (R : List Rw) (ws : List (List Nat)) : Bool := decide ((ws.map (doW R)).Nodup) && decide ([] ∈ ws) && ws.all (fun w => w.all fun j => decide (j < m)) && ws.all fun w => (List.range m).all fun j => decide (doW R (w ++ [j]) ∈ ws.map (doW R))
theorem el_b {m : Nat} {R : List Rw} {ws : List (List Nat)} (W : WfR m R) (h : elB m R ws = true) : Elems m R (ws.map (doW R)) := by
  unfold elB at h
  simp only [Bool.and_eq_true, List.all_eq_true, decide_eq_true_eq, List.mem_range] at h
  obtain ⟨⟨⟨h1, h2⟩, h3⟩, h4⟩ := h
  refine ⟨h1, fun d hd => ?_, fun w hw => ?_⟩
  · obtain ⟨w, m1, m2⟩ := List.mem_map.mp hd
    exact ⟨w, fun j hj => h3 w m1 j hj, m2.symm⟩
  · have gen : ∀ r : List Nat, Lw m r.reverse → doW R r.reverse ∈ ws.map (doW R) := by
      intro r
      induction r with
      | nil => exact fun _ => List.mem_map.mpr ⟨[], h2, rfl⟩
      | cons j r ih =>
        intro hr
        rw [List.reverse_cons] at hr ⊢
        obtain ⟨w, m1, m2⟩ := List.mem_map.mp (ih fun a ha => hr a (List.mem_append_left _ ha))
        rw [← doW_cong W m2 (rfl : doW R [j] = _)]
        exact h4 w m1 j (hr j (List.mem_append_right _ List.mem_cons_self))
    have := gen w.reverse (by rw [List.reverse_reverse]; exact hw)
    rwa [List.reverse_reverse] at this
def rcB (R : List Rw) (ws : List (List Nat)) : Bool := (List.range R.length).all fun i => ws.any fun w => decide (runR R 0 w = i)
theorem rc_b {m : Nat} {R : List Rw} {ws : List (List Nat)} (l : ∀ w ∈ ws, Lw m w) (h : rcB R ws = true) : Reach m R := by
  unfold rcB at h
  simp only [List.all_eq_true, List.any_eq_true, decide_eq_true_eq, List.mem_range] at h
  intro i hi
  obtain ⟨w, h1, h2⟩ := h i hi
  exact ⟨w, l w h1, h2⟩
def mnB (R : List Rw) (ws : List (List Nat)) : Bool := (List.range R.length).all fun i => (List.range R.length).all fun j => decide (i = j) || ws.any fun w => decide (tkR R i w ≠ tkR R j w)
theorem mn_b {m : Nat} {R : List Rw} {ws : List (List Nat)} (l : ∀ w ∈ ws, Lw m w) (h : mnB R ws = true) : Mn m R := by
  unfold mnB at h
  simp only [List.all_eq_true, List.any_eq_true, decide_eq_true_eq, List.mem_range, Bool.or_eq_true] at h
  intro i j hi hj f
  rcases h i hi j hj with h | ⟨w, h1, h2⟩
  · exact h
  · exact absurd (f w (l w h1)) h2
/-- all of it of one table -/
structure ConOk (m : Nat) (R : List Rw) (b : Bool) : Prop where
  wf : WfR m R
  few : Few m (tkR R 0) 24
  da : DAT m (tkR R 0) ↔ b = true
theorem con_b {m : Nat} {R : List Rw} {ws : List (List Nat)} {b : Bool} (h : (wfB m R && elB m R ws && rcB R ws && mnB R ws && decide (ws.length ≤ 24) && decide (daB (ws.map (doW R)) = b)) = true) : ConOk m R b := by
  simp only [Bool.and_eq_true, decide_eq_true_eq] at h
  obtain ⟨⟨⟨⟨⟨h1, h2⟩, h3⟩, h4⟩, h5⟩, h6⟩ := h
  have W := wf_b h1
  have El := el_b W h2
  have l : ∀ w ∈ ws, Lw m w := by
    unfold elB at h2
    simp only [Bool.and_eq_true, List.all_eq_true, decide_eq_true_eq] at h2
    exact fun w hw j hj => h2.1.2 w hw j hj
  have rc := rc_b l h3
  have mn := mn_b l h4
  refine ⟨W, few_of W rc mn El.all (by rw [List.length_map]; exact h5), ?_⟩
  rw [← da_lang W rc mn, ← da_iff W El, h6]
def strewnR : List Rw := [(false, [1, 0]), (false, [1, 2]), (true, [2, 2])]
def stretchR : List Rw := [(false, [1, 0, 0]), (false, [1, 2, 0]), (true, [2, 2, 2])]
def evenR : List Rw := [(true, [1]), (false, [0])]
theorem con_strewn : ConOk 2 strewnR true := con_b (ws := [[], [0], [1], [0, 1], [1, 0]]) (by decide +kernel)
theorem con_stretch : ConOk 3 stretchR false := con_b (ws := [[], [0], [1], [2], [0, 1], [1, 0]]) (by decide +kernel)
theorem con_even : ConOk 1 evenR false := con_b (ws := [[], [0]]) (by decide +kernel)
theorem wi_app (ls : List Nat) (a b : Str) : wi ls (a ++ b) = wi ls a ++ wi ls b := by
  have e : (a ++ b).cps.toList = a.cps.toList ++ b.cps.toList := by
    show (a.cps ++ b.cps).toList = _
    rw [Array.toList_append]
  unfold wi
  rw [e, List.map_append]
theorem wi_mul (ls : List Nat) (z : Str) (n : Nat) : wi ls (Txt.mul z n) = pw (wi ls z) n := by
  unfold wi pw
  rw [mul_cps, List.map_flatten, List.map_replicate]
theorem sg_app (c : Nat) (w : Str) : (sg c ++ w).cps.toList = c :: w.cps.toList := by
  show (((#[c] : Array Nat) ++ w.cps)).toList = _
  simp
theorem sg_app_len (c : Nat) (w : Str) : (sg c ++ w).length = w.length + 1 := by
  rw [← cut_len, sg_app, List.length_cons, cut_len]
theorem app_len (a b : Str) : (a ++ b).length = a.length + b.length := by
  show (a.cps ++ b.cps).size = _
  rw [Array.size_append]
  rfl
theorem ofl_app {ls : List Nat} {a b : Str} (ha : OfL ls a) (hb : OfL ls b) : OfL ls (a ++ b) := fun c hc => by
  have hc3 : c ∈ (a.cps ++ b.cps).toList := hc
  rw [Array.toList_append] at hc3
  exact (List.mem_append.mp hc3).elim (ha c) (hb c)
theorem ofl_mul {ls : List Nat} {a : Str} {n : Nat} (ha : OfL ls a) : OfL ls (Txt.mul a n) := fun c hc => by
  rw [mul_cps] at hc
  obtain ⟨l, hl, hc⟩ := List.mem_flatten.mp hc
  rw [List.eq_of_mem_replicate hl] at hc
  exact ha c hc
theorem mul_len (z : Str) (n : Nat) : (Txt.mul z n).length = n * z.length := by
  rw [← cut_len, mul_cps, List.length_flatten, List.map_replicate, List.sum_replicate_nat, cut_len]
theorem ok_word {ls z : Str} {m : Int} (h : (z.length : Int) ≤ m) (o : OfL ls.cps.toList z) : okWord ls z m = true := by
  unfold okWord
  rw [Bool.and_eq_true, List.all_eq_true]
  exact ⟨decide_eq_true h, fun c hc => decide_eq_true (o c hc)⟩
end SWL
set_option Elab.async false
set_option linter.all false
set_option maxRecDepth 100000
set_option maxHeartbeats 16000000
namespace SWL
open PySem PySem.Spec PyProof.Rows L2 LamX NdefX
/-! the law -/
/-- what holds from lap to lap -/
structure LM (H : Hp) (a g c : Addr) (cs : List Int) (n : Nat) (Pl : Addr) : Prop where
  sat : SAt H a g c cs n
  tab : TabsN [(Pl, nmL)] H
theorem LM.grows {H H' : Hp} {a g c Pl : Addr} {cs : List Int} {n : Nat} (s : LM H a g c cs n Pl) (x : Grows H H') : LM H' a g c cs n Pl := ⟨s.sat.grows x, s.tab.ext x⟩
theorem LM.mono {H : Hp} {a g c Pl : Addr} {cs : List Int} {n m : Nat} (s : LM H a g c cs n Pl) (h : n ≤ m) : LM H a g c cs m Pl := ⟨s.sat.mono h, s.tab⟩
theorem TabsN.but {H H' : Hp} {a g : Addr} {T : List NTab} (t : TabsN T H) (x : But H H' a g) (o : Off H a g) : TabsN T H' := fun p hp => by
  obtain ⟨_, h1⟩ := o.st
  obtain ⟨_, h2⟩ := o.gr
  obtain ⟨ps, e1, e2, e3⟩ := t p hp
  refine ⟨ps, x _ _ e1 (ne_of e1 h1 (by intro z; cases z)) (ne_of e1 h2 (by intro z; cases z)), e2, fun pos cv hc => ?_⟩
  obtain ⟨d, f1, f2⟩ := e3 pos cv hc
  exact ⟨d, f1, x _ _ f2 (ne_of f2 h1 (by unfold CodeO; intro z; cases z)) (ne_of f2 h2 (by unfold CodeO; intro z; cases z))⟩
theorem LM.but {H H' : Hp} {a g c Pl : Addr} {cs : List Int} {n m : Nat} (s : LM H a g c cs n Pl) (x : But H H' a g) (s' : SAt H' a g c cs m) : LM H' a g c cs m Pl := ⟨s', TabsN.but s.tab x s.sat.off⟩
theorem SAt.ext {H H' : Hp} {a g c : Addr} {cs : List Int} {n : Nat} (s : SAt H a g c cs n) (x : ExtN H H') : SAt H' a g c cs n := by
  obtain ⟨gs, r, t, h1, h2, h3, h4⟩ := s.ex
  exact ⟨gs, r, t, x _ _ h1 (by intro ps z; cases z), x _ _ h2 (by intro ps z; cases z), x _ _ h3 (by intro ps z; cases z), h4⟩
theorem LM.ext {H H' : Hp} {a g c Pl : Addr} {cs : List Int} {n : Nat} (s : LM H a g c cs n Pl) (x : ExtN H H') (t : TabsN [(Pl, nmL)] H') : LM H' a g c cs n Pl := ⟨s.sat.ext x, t⟩
structure LotK (ls : Str) : Prop where
  ok : okLetters ls = true
  pos : 1 ≤ ls.length
  len : ls.length ≤ 3
  nd : ls.cps.toList.Nodup
def lotKB (ls : Str) : Bool := okLetters ls && decide (1 ≤ ls.length) && decide (ls.length ≤ 3) && decide ls.cps.toList.Nodup
theorem lotsK : lettersL.all lotKB = true := by decide +kernel
theorem lot_k {ls : Str} (h : lotKB ls = true) : LotK ls := by
  unfold lotKB at h
  simp only [Bool.and_eq_true, decide_eq_true_eq] at h
  exact ⟨h.1.1.1, h.1.1.2, h.1.2, h.2⟩
/-- a machine off the drawing state -/
def MachG (H : Hp) (x C g : Addr) (ls : Str) (R : List Rw) : Prop := ∃ dx L vs, H x = some (.ins C dx (mcf ls L)) ∧ H L = some (.lst vs) ∧ RowsAt H vs R ∧ L ≠ g
theorem MachG.at_ {H : Hp} {x C g : Addr} {ls : Str} {R : List Rw} (M : MachG H x C g ls R) : MachAt H x C ls R := let ⟨dx, L, vs, h1, h2, h3, _⟩ := M; ⟨dx, L, vs, h1, h2, h3⟩
theorem MachG.grows {H H' : Hp} {x C g : Addr} {ls : Str} {R : List Rw} (M : MachG H x C g ls R) (e : Grows H H') : MachG H' x C g ls R := let ⟨dx, L, vs, h1, h2, h3, h4⟩ := M; ⟨dx, L, vs, e _ _ h1, e _ _ h2, h3.grows e, h4⟩
theorem MachG.ext {H H' : Hp} {x C g : Addr} {ls : Str} {R : List Rw} (M : MachG H x C g ls R) (e : ExtN H H') : MachG H' x C g ls R := let ⟨dx, L, vs, h1, h2, h3, h4⟩ := M; ⟨dx, L, vs, e _ _ h1 (by intro ps z; cases z), e _ _ h2 (by intro ps z; cases z), h3.ext e, h4⟩
theorem MachG.but {H H' : Hp} {x C a g : Addr} {ls : Str} {R : List Rw} (M : MachG H x C g ls R) (b : But H H' a g) (o : Off H a g) : MachG H' x C g ls R := by
  obtain ⟨dx, L, vs, h1, h2, h3, h4⟩ := M
  have tp := b.tups o
  obtain ⟨ks, k1⟩ := o.st
  obtain ⟨ys, k2⟩ := o.gr
  exact ⟨dx, L, vs, b _ _ h1 (ne_of h1 k1 (by intro z; cases z)) (ne_of h1 k2 (by intro z; cases z)), b _ _ h2 (ne_of h2 k1 (by intro z; cases z)) h4, h3.tups tp, h4⟩
def spLaw (K : PySem.W.Frag) (Pl : Addr) : Sp := fun vs H Q _ => ∃ (a : Addr) (ns : List Int), vs = [.ref a] ∧ SqL K H a (ns.map V.int) ∧ ns.length ≤ 63 ∧ H Pl = some (.tbl #[]) ∧ ∀ H', Q (.bl true) H'
abbrev NL : List Str := ["script", "state", "lap", "letters", "machine", "small", "due", "turn", "piece", "u", "v", "some", "strewn_ab", "stretch_ab", "even", "at"]
structure Callees (P : Program) (w : World) (K : PySem.W.Frag) (mg : Str → Option Value) (base : Heap) (C Pl : Addr) : Prop where
  begun : ∃ f fd, Def mg K "_law_begun" f fd ["script"] ∧ FnOk P w K mg base CX0 1 f fd ["script"] (spBegun K)
  draw : ∃ f fd, Def mg K "_law_draw" f fd ["state", "room"] ∧ FnOk P w K mg base CX0 2 f fd ["state", "room"] spDraw
  pick : ∃ f fd, Def mg K "_law_pick" f fd ["state", "some"] ∧ FnOk P w K mg base CX0 3 f fd ["state", "some"] spPickS
  someL : ∃ f fd, Def mg K "_law_some_letters" f fd ["state"] ∧ FnOk P w K mg base CX0 4 f fd ["state"] spSomeL
  someW : ∃ f fd, Def mg K "_law_some_word" f fd ["state", "letters", "most"] ∧ FnOk P w K mg base CX0 4 f fd ["state", "letters", "most"] spSomeW
  someR : ∃ f fd, Def mg K "_law_some_rows" f fd ["state", "letters"] ∧ FnOk P w K mg base CX0 4 f fd ["state", "letters"] spSomeRows
  is : ∃ f fd, Def mg K "_law_is" f fd ["found", "due"] ∧ FnG P w K mg base 5 f fd ["found", "due"] (spIsV K 3)
  least : ∃ f fd, Def mg K "least" f fd ["machine"] ∧ FnOk P w K mg base CX0 11 f fd ["machine"] (spLeastM C Pl)
  turned : ∃ f fd, Def mg K "_law_is_turned" f fd ["rows", "letters"] ∧ FnOk P w K mg base CX0 3 f fd ["rows", "letters"] spIsTurned
  turns : ∃ f fd, Def mg K "is_turns" f fd ["machine"] ∧ KBinds K fd ["machine"] ["machine"] (fun us ws => us ++ ws.reverse) (fun us ws => us ++ ws.reverse) ∧ FnOk P w K mg base CX0 14 f fd ["machine"] (spIsTurns C Pl)
section
variable {P : Program} {w : World} {K : PySem.W.Frag} {mg : Str → Option Value} {base : Heap}
theorem scLaw : FnScope NL ["script"] (defScope sLaw) := ⟨rfl, rfl, rfl, by decide +kernel, rfl, by decide +kernel, by decide +kernel⟩
theorem ok_law {f fM fMR fT C Pl fl : Addr} {fdM fdMR fdT : FuncData} {oc0 kV0 doc0 pm0 ct0 cdv : Value} {an0 od0 : Option Addr} {osl0 : Array (Option Value)} (lk : K.lookup f = some ⟨oc0, od0, .func (PySem.W.fnOf "law" "law" (defArgs sLaw) (defBody sLaw) (defScope sLaw) .none kV0 doc0 pm0 an0 cdv ct0), osl0⟩)
    (hcd : PySem.W.codeIn K cdv "law" = true) (B : Blt mg) (CA : Callees P w K mg base C Pl)
    (M : Mk K C fM) (mgC : mg "Machine" = some (.ref C)) (GM : FnOk P w K mg base CX0 4 fM fdM ["self", "letters", "rows"] (spMInit K C)) (bM : Binds K fdM ["self", "letters", "rows"] [])
    (T : McC K mg C fl fMR) (GMR : FnOk P w K mg base CX0 1 fMR fdMR ["self"] (spMRow C)) (bMR : Binds K fdMR ["self"] [])
    (mT : Meth K C "takes" fT) (GT : FnOk P w K mg base CX0 5 fT fdT ["self", "word"] (spTakes C)) (bT : Binds K fdT ["self", "word"] []) :
    FnG P w K mg base 16 f (PySem.W.fnOf "law" "law" (defArgs sLaw) (defBody sLaw) (defScope sLaw) .none kV0 doc0 pm0 an0 cdv ct0) ["script"] (spLaw K Pl) := by
  refine ⟨fun vs H Q E h => (by obtain ⟨a, ns, rfl, _⟩ := h; rfl), fun A outer s H args us vs Q E gA hr0 e0 hb r h => run_ofS (k := 15) lk hcd scLaw hr0 e0 hb r (by obtain ⟨a, ns, rfl, _⟩ := h; rfl) fun hr => ?_⟩
  obtain ⟨fB, fdB, DB, GB⟩ := CA.begun
  obtain ⟨fD, fdD, DD, GD⟩ := CA.draw
  obtain ⟨fQ, fdQ, DQ, GQ⟩ := CA.pick
  obtain ⟨fL, fdL, DL, GL⟩ := CA.someL
  obtain ⟨fW, fdW, DW, GW⟩ := CA.someW
  obtain ⟨fR, fdR, DR, GR⟩ := CA.someR
  obtain ⟨fI, fdI, DI, GI⟩ := CA.is
  obtain ⟨fLe, fdLe, DLe, GLe⟩ := CA.least
  obtain ⟨fTu, fdTu, DTu, GTu⟩ := CA.turned
  obtain ⟨fH, fdH, DH, KH, GH⟩ := CA.turns
  have u64 : (A.deeper (envOfC "law" (defScope sLaw) s.heap.objs.size f cdv)).units + 64 < cLine := by have := hr.un; omega
  have gX : (A.deeper (envOfC "law" (defScope sLaw) s.heap.objs.size f cdv)).guards = some [] := gA
  refine ⟨_, PSs.nox (pss_cons (ps_set (i := 1) scLaw.nd rfl (Or.inr rfl) (pe_call GB (hr.mono (by decide)) (by rfl) DB.g DB.k DB.b .nil pass0 (pa_cons (pv 0) pa_nil)))
      (pss_cons (ps_for PassesOwn.never rfl (pi_range1 (by rfl) B.range (pa_cons pe_int pa_nil)) (pg_name (i := 2) scLaw.nd rfl (Or.inl rfl)) (pss_cons (ps_set (i := 3) scLaw.nd rfl (Or.inl rfl) (pe_call GL (hr.mono (by decide)) (by rfl) DL.g DL.k DL.b .nil pass0 (pa_cons (pv 1) pa_nil)))
      (pss_cons (ps_set (i := 4) scLaw.nd rfl (Or.inl rfl) (pe_make M GM (hr.mono (by decide)) (by rfl) mgC bM .nil pass0 (pa_cons (pv 3) (pa_cons (pe_call GR (hr.mono (by decide)) (by rfl) DR.g DR.k DR.b .nil pass0 (pa_cons (pv 1) (pa_cons (pv 3) pa_nil))) pa_nil))))
      (pss_cons (ps_set (i := 5) scLaw.nd rfl (Or.inl rfl) (pe_call GLe (hr.mono (by decide)) (by rfl) DLe.g DLe.k DLe.b .nil pass0 (pa_cons (pv 4) pa_nil)))
      (pss_cons (ps_set (i := 6) scLaw.nd rfl (Or.inl rfl) (pe_call GTu (hr.mono (by decide)) (by rfl) DTu.g DTu.k DTu.b .nil pass0 (pa_cons (pe_meth0 (pv 5) T.cl T.mR GMR (hr.mono (by decide)) bMR .nil pass0) (pa_cons (pv 3) pa_nil))))
      (pss_cons (ps_if (pt_cmpR op_isN (pv 6) pe_non (nomark _)) (pss_one ps_continue) pss_nil)
      (pss_cons (ps_if (PW.pt (pw_or (pt_not (pt_truth (pe_callG gX GI (hr.mono (by decide)) (by rfl) DI.g DI.k DI.b (pa_cons (pe_call GH (hr.mono (by decide)) (by rfl) DH.g DH.k DH.b .nil pass0 (pa_cons (pv 4) pa_nil)) (pa_cons (pv 6) pa_nil))) (by intro _; rfl))) (pw_or1 (pt_not (pt_truth (pe_callG gX GI (hr.mono (by decide)) (by rfl) DI.g DI.k DI.b (pa_cons (pe_kwCall GH (hr.mono (by decide)) (by rfl) DH.g DH.k KH pass0 (pk_cons (pv 5) pk_nil)) (pa_cons (pv 6) pa_nil))) (by intro _; rfl)))))) (pss_one (ps_ret pe_bl)) pss_nil)
      (pss_one (ps_if (pt_truth (pv 6) (by intro _; rfl)) (pss_one (ps_for PassesOwn.never rfl (pi_range1 (by rfl) B.range (pa_cons pe_int pa_nil)) (pg_name (i := 7) scLaw.nd rfl (Or.inl rfl)) (pss_cons (ps_asg (pe_tup (pa_cons (pe_op op_add_str (pe_call GQ (hr.mono (by decide)) (by rfl) DQ.g DQ.k DQ.b .nil pass0 (pa_cons (pv 1) (pa_cons (pv 3) pa_nil))) (pe_call GW (hr.mono (by decide)) (by rfl) DW.g DW.k DW.b .nil pass0 (pa_cons (pv 1) (pa_cons (pv 3) (pa_cons pe_int pa_nil))))) (pa_cons (pe_call GW (hr.mono (by decide)) (by rfl) DW.g DW.k DW.b .nil pass0 (pa_cons (pv 1) (pa_cons (pv 3) (pa_cons pe_int pa_nil)))) (pa_cons (pe_call GW (hr.mono (by decide)) (by rfl) DW.g DW.k DW.b .nil pass0 (pa_cons (pv 1) (pa_cons (pv 3) (pa_cons pe_int pa_nil)))) pa_nil)))) (pg_tup rfl (pgs_cons (pg_name (i := 8) scLaw.nd rfl (Or.inr rfl)) (pgs_cons (pg_name (i := 9) scLaw.nd rfl (Or.inl rfl)) (pgs_cons (pg_name (i := 10) scLaw.nd rfl (Or.inl rfl)) pgs_nil)))))
      (pss_cons (ps_set (i := 11) scLaw.nd rfl (Or.inl rfl) (pe_join pe_str (pe_lc (own := [("at", 15)]) (g := (gName 15)) (tt := tYes) (te := (tCall spPickS [] E0 (tCons (tVar 1) (tCons (tVar 8) tNil)))) rfl scLaw.nd (pi_range1 (by rfl) B.range (pa_cons (pe_call GD (hr.mono (by decide)) (by rfl) DD.g DD.k DD.b .nil pass0 (pa_cons (pv 1) (pa_cons pe_int pa_nil))) pa_nil)) (blkOk_by (N := NL) (sc := defScope sLaw) (by decide +kernel)) (fun _ _ _ _ _ => (pg_name (i := 15) scLaw.nd rfl (Or.inl rfl))) (fun _ _ _ _ _ => pts_nil) (fun _ _ _ _ _ => (pe_call GQ (hr.mono (by decide)) (by rfl) DQ.g DQ.k DQ.b .nil pass0 (pa_cons (pv 1) (pa_cons (pv 8) pa_nil)))))))
      (pss_one (ps_if (pt_cmpR op_ne (pe_meth (pv 4) T.cl mT GT (hr.mono (by decide)) bT .nil pass0 (pa_cons (pe_op op_add_str (pe_op op_add_str (pv 9) (pe_op op_mulS (pv 8) pe_int)) (pv 10)) pa_nil)) (pe_meth (pv 4) T.cl mT GT (hr.mono (by decide)) bT .nil pass0 (pa_cons (pe_op op_add_str (pe_op op_add_str (pe_op op_add_str (pe_op op_add_str (pv 9) (pe_op op_mulS (pv 8) pe_int)) (pv 11)) (pe_op op_mulS (pv 8) pe_int)) (pv 10)) pa_nil)) (nomark _)) (pss_one (ps_ret pe_bl)) pss_nil)))))) pss_nil)))))))))
      (pss_cons (ps_set (i := 12) scLaw.nd rfl (Or.inl rfl) (pe_make M GM (hr.mono (by decide)) (by rfl) mgC bM .nil pass0 (pa_cons pe_str (pa_cons (pe_lst (pa_cons (pe_tup (pa_cons pe_bl (pa_cons (pe_tup (pa_cons pe_int (pa_cons pe_int pa_nil))) pa_nil))) (pa_cons (pe_tup (pa_cons pe_bl (pa_cons (pe_tup (pa_cons pe_int (pa_cons pe_int pa_nil))) pa_nil))) (pa_cons (pe_tup (pa_cons pe_bl (pa_cons (pe_tup (pa_cons pe_int (pa_cons pe_int pa_nil))) pa_nil))) pa_nil)))) pa_nil))))
      (pss_cons (ps_set (i := 13) scLaw.nd rfl (Or.inl rfl) (pe_make M GM (hr.mono (by decide)) (by rfl) mgC bM .nil pass0 (pa_cons pe_str (pa_cons (pe_lst (pa_cons (pe_tup (pa_cons pe_bl (pa_cons (pe_tup (pa_cons pe_int (pa_cons pe_int (pa_cons pe_int pa_nil)))) pa_nil))) (pa_cons (pe_tup (pa_cons pe_bl (pa_cons (pe_tup (pa_cons pe_int (pa_cons pe_int (pa_cons pe_int pa_nil)))) pa_nil))) (pa_cons (pe_tup (pa_cons pe_bl (pa_cons (pe_tup (pa_cons pe_int (pa_cons pe_int (pa_cons pe_int pa_nil)))) pa_nil))) pa_nil)))) pa_nil))))
      (pss_cons (ps_set (i := 14) scLaw.nd rfl (Or.inl rfl) (pe_make M GM (hr.mono (by decide)) (by rfl) mgC bM .nil pass0 (pa_cons pe_str (pa_cons (pe_lst (pa_cons (pe_tup (pa_cons pe_bl (pa_cons (pe_tup (pa_cons pe_int pa_nil)) pa_nil))) (pa_cons (pe_tup (pa_cons pe_bl (pa_cons (pe_tup (pa_cons pe_int pa_nil)) pa_nil))) pa_nil))) pa_nil))))
      (pss_one (ps_ret (pe_callG gX GI (hr.mono (by decide)) (by rfl) DI.g DI.k DI.b (pa_cons (pe_tup (pa_cons (pe_call GH (hr.mono (by decide)) (by rfl) DH.g DH.k DH.b .nil pass0 (pa_cons (pv 12) pa_nil)) (pa_cons (pe_call GH (hr.mono (by decide)) (by rfl) DH.g DH.k DH.b .nil pass0 (pa_cons (pv 13) pa_nil)) (pa_cons (pe_call GH (hr.mono (by decide)) (by rfl) DH.g DH.k DH.b .nil pass0 (pa_cons (pv 14) pa_nil)) pa_nil)))) (pa_cons (pe_tup (pa_cons pe_bl (pa_cons pe_bl (pa_cons pe_bl pa_nil)))) pa_nil)))))))))), ?_⟩
  have sz : sizeLine = 16777216 := sizeLine_eq
  obtain ⟨a0, ns, rfl, hS, hn, hP, q⟩ := h
  refine ⟨_, rfl, a0, ns, rfl, hS, by omega, fun H1 a g cA cs g1 s1 na ng => ?_⟩
  have L1 : LM H1 a g cA cs 0 Pl := ⟨s1, fun p hp => by cases List.mem_singleton.mp hp; exact TabN.nil (g1 _ _ hP)⟩
  refine ⟨6, rfl, by decide, by decide, for_it walk_range (fun i σ H' => (∃ v2 v3 v4 v5 v6 v7 v8 v9 v10 v11 v12 v13 v14 v15 : Option V, σ = [some (.ref a0), some (.ref a), v2, v3, v4, v5, v6, v7, v8, v9, v10, v11, v12, v13, v14, v15]) ∧ LM H' a g cA cs (2000 * i) Pl)
    ⟨⟨_, _, _, _, _, _, _, _, _, _, _, _, _, _, rfl⟩, L1⟩ (fun _ _ _ _ _ => trivial) ?_ ?_⟩
  · rintro i x σ H2x H2 hi ⟨⟨v2, v3, v4, v5, v6, v7, v8, v9, v10, v11, v12, v13, v14, v15, rfl⟩, L⟩ ⟨rfl, rfl⟩
    have hi6 : i < 6 := hi
    refine ⟨_, rfl, a, g, cA, cs, 2000 * i, rfl, L.sat, by omega, fun H3 ls hls s3 b3 => ?_⟩
    have lo := lot_k (List.all_eq_true.mp lotsK ls hls)
    have L3 := L.but b3 s3
    have hl3 := lo.len
    have hl1 := lo.pos
    have lsl : ls.cps.toList.length = ls.length := cut_len ls
    clear s3 b3 L
    -- the machine
    refine ⟨_, rfl, _, rfl, _, rfl, a, g, cA, cs, 2000 * i + 1, ls, rfl, L3.sat, by omega, by omega, fun H4 RL rs R nRL kRL hR W lR s4 b4 => fun x dx nx ndx dne => ?_⟩
    have L4 := L3.but b4 s4
    have h60 : R.length ≤ 60 := by omega
    have gM : Grows H4 (upd (upd H4 dx (.own x)) x (.ins C dx [])) := fun c o e => by
      rw [upd_ne (ne_of_none e nx), upd_ne (ne_of_none e ndx)]
      exact e
    refine ⟨x, dx, RL, ls, rs, R, rfl, upd_same, lo.ok, by omega, gM _ _ kRL, hR.grows gM, W, by omega, fun H6 LL h1 h2 h3 h4 h5 => ⟨rfl, ?_⟩⟩
    have LLg : LL ≠ g := ((L4.sat.grows gM).fresh h2).2.1
    have g46 : Grows H4 H6 := fun c o e => h5 c o (ne_of_none e nx) (gM _ _ e)
    have M6 : MachG H6 x C g ls R := ⟨dx, LL, rs, h1, h4, hR.grows g46, LLg⟩
    have L6 := L4.grows g46
    clear gM nx ndx h1 h2 h3 h4 h5 g46 hR kRL L4 nRL L3 s4 b4
    -- small
    refine ⟨_, rfl, x, ls, R, rfl, M6.at_, lo.ok, by omega, hl1, lo.nd, W, h60, L6.tab, fun H7 xs R' e7 n7 t7 nxs Ms Ws ls7 Sm rc mn => ?_⟩
    have L7 := L6.ext e7 t7
    have M7 := M6.ext e7
    obtain ⟨sdx, sL, svs, sm1, sm2, sm3⟩ := id Ms.obj
    refine ⟨_, rfl, xs, sdx, _, rfl, sm1, mcf_no ls sL (by decide +kernel) (by decide +kernel), xs, ls, R', rfl, Ms, fun D ws nD hRs => ?_⟩
    have gD : Grows H7 (upd H7 D (.lst ws)) := Grows.new nD
    refine ⟨_, rfl, D, ws, R', ls, rfl, upd_same, hRs.grows gD, Ws, by omega, by omega, fun H8 v g8 hv => ?_⟩
    have g78 := gD.trans g8
    have L8 := L7.grows g78
    have M8 := M7.grows g78
    have Ms8 := Ms.grows g78
    clear L7 M7 Ms sm1 sm2 sm3 gD g8 g78 L6 M6 e7 n7 t7 hRs nD
    rcases hv with rfl | ⟨b, us, rfl, ib, El, u24⟩
    · refine ⟨_, rfl, rfl, _, rfl, if_pos_of rfl ?_⟩
      exact ⟨⟨_, _, _, _, _, _, _, _, _, _, _, _, _, _, rfl⟩, L8.mono (by omega)⟩
    refine ⟨_, rfl, rfl, _, rfl, if_neg_of (by rw [decide_eq_false (by intro z; cases z)]; decide) ?_⟩
    have fewS : Few ls.length (tkR R' 0) 24 := few_of Ws rc mn El.all (by rw [List.length_map]; exact u24)
    have fewR : Few ls.length (tkR R 0) 24 := few_same Sm fewS
    have iS : b = true ↔ DAT ls.length (tkR R' 0) := ib.trans (da_lang Ws rc mn)
    have iR : b = true ↔ DAT ls.length (tkR R 0) := iS.trans (daT_same Sm)
    have same : ∀ {b2 : Bool} {X : Prop}, (b2 = true ↔ X) → (b = true ↔ X) → b2 = b := fun {b2 X} h1 h2 => by
      rw [Bool.eq_iff_iff, h1, h2]
    -- is_turns, twice
    refine ⟨_, rfl, x, ls, R, rfl, M8.at_, lo.ok, hl1, by omega, lo.nd, W, h60, L8.tab, fewR, fun H9 b9 e9 n9 t9 i9 => ?_⟩
    obtain rfl := same i9 iR
    have L9 := L8.ext e9 t9
    have M9 := M8.ext e9
    have Ms9 := Ms8.ext e9
    refine ⟨_, rfl, .bl b9, .bl b9, .bool b9, rfl, .bl _, .bl _, good_bool b9, by show 0 < 3; decide, fun H10 g10 => ⟨true, rfl, if_neg_of (by decide) ?_⟩⟩
    have L10 := L9.grows g10
    have M10 := M9.grows g10
    have Ms10 := Ms9.grows g10
    clear L8 M8 Ms8 L9 M9 Ms9 e9 n9 t9 g10 i9 same
    refine ⟨_, rfl, xs, ls, R', rfl, Ms10, lo.ok, hl1, by omega, lo.nd, Ws, by omega, L10.tab, fewS, fun H11 b11 e11 n11 t11 i11 => ?_⟩
    have e : b11 = b9 := by rw [Bool.eq_iff_iff, i11, iS]
    subst e
    have L11 := L10.ext e11 t11
    have M11 := M10.ext e11
    refine ⟨_, rfl, .bl b11, .bl b11, .bool b11, rfl, .bl _, .bl _, good_bool b11, by show 0 < 3; decide, fun H12 g12 => ⟨true, rfl, if_neg_of (by decide) ?_⟩⟩
    have L12 := L11.grows g12
    have M12 := M11.grows g12
    clear L10 M10 Ms10 L11 M11 e11 n11 t11 g12 i11
    cases b11 with
    | false =>
      refine ⟨_, rfl, false, rfl, if_neg_of (by decide) ?_⟩
      exact ⟨⟨_, _, _, _, _, _, _, _, _, _, _, _, _, _, rfl⟩, L12.mono (by omega)⟩
    | true =>
      have da := ib.mp rfl
      refine ⟨_, rfl, true, rfl, if_pos_of rfl ?_⟩
      refine ⟨4, rfl, by decide, by decide, for_it walk_range (fun l σ H' => (∃ w7 w8 w9 w10 w11 w12 w13 w14 w15 : Option V, σ = [some (.ref a0), some (.ref a), some (.int (0 + (i : Int))), some (.str ls), some (.ref x), some (.ref xs), some (.bl true), w7, w8, w9, w10, w11, w12, w13, w14, w15]) ∧ LM H' a g cA cs (2000 * i + 1 + 400 + 300 * l) Pl ∧ MachG H' x C g ls R)
        ⟨⟨_, _, _, _, _, _, _, _, _, rfl⟩, L12, M12⟩ (fun _ _ _ _ _ => trivial) ?_ ?_⟩
      · rintro l y σ H13x H13 hl ⟨⟨w7, w8, w9, w10, w11, w12, w13, w14, w15, rfl⟩, L13, M13⟩ ⟨rfl, rfl⟩
        have hl4 : l < 4 := hl
        refine ⟨_, rfl, _, rfl, a, g, cA, cs, _, ls, rfl, L13.sat, by omega, by omega, by omega, fun H14 d hd s14 b14 => ?_⟩
        have L14 := L13.but b14 s14
        have M14 := M13.but b14 L13.sat.off
        clear L13 M13 s14 b14
        refine ⟨_, rfl, _, rfl, a, g, cA, cs, _, 2, ls, rfl, by omega, by omega, by decide, L14.sat, by omega, fun H15 z2 o2 l2 s15 b15 => ⟨_, _, rfl, rfl, (by have : (sg d).length = 1 := rfl; omega), ?_⟩⟩
        have L15 := L14.but b15 s15
        have M15 := M14.but b15 L14.sat.off
        clear L14 M14 s15 b15
        have pl : (sg d ++ z2).length = z2.length + 1 := sg_app_len d z2
        have po : OfL ls.cps.toList (sg d ++ z2) := fun c hc => by
          rw [sg_app] at hc
          rcases List.mem_cons.mp hc with rfl | hc
          · exact hd
          · exact o2 c hc
        generalize sg d ++ z2 = pz at pl po ⊢
        refine ⟨_, rfl, _, rfl, a, g, cA, cs, _, 3, ls, rfl, by omega, by omega, by decide, L15.sat, by omega, fun H16 u ou lu s16 b16 => ?_⟩
        have L16 := L15.but b16 s16
        have M16 := M15.but b16 L15.sat.off
        clear L15 M15 s16 b16
        refine ⟨_, rfl, _, rfl, a, g, cA, cs, _, 3, ls, rfl, by omega, by omega, by decide, L16.sat, by omega, fun H17 v ov lv s17 b17 => ?_⟩
        have L17 := L16.but b17 s17
        have M17 := M16.but b17 L16.sat.off
        clear L16 M16 s17 b17
        refine ⟨by show 3 ≤ sizeLine; omega, fun tp ntp => ?_⟩
        have gt : Grows H17 (upd H17 tp (.tup [.str pz, .str u, .str v])) := Grows.new ntp
        refine ⟨tp, _, rfl, .inl (.inl upd_same), rfl, _, _, rfl, _, _, rfl, _, _, rfl, rfl, ?_⟩
        have L18 := L17.grows gt
        have M18 := M17.grows gt
        generalize upd H17 tp (.tup [.str pz, .str u, .str v]) = H18 at L18 M18 ⊢
        clear L17 M17 gt ntp
        -- some
        refine ⟨⟨_, rfl⟩, _, rfl, a, g, cA, cs, _, 4, rfl, L18.sat, by omega, by decide, by decide, fun H19 k hk0 hk s19 b19 => ⟨k, rfl, by omega, by omega, fun D nD => ?_⟩⟩
        have L19 := L18.but b19 s19
        have M19 := M18.but b19 L18.sat.off
        clear L18 M18 s19 b19
        refine lc_it walk_range (PickP H19 a g cA cs _ pz D) (pick0 L19.sat nD) (fun _ _ _ _ => trivial) ?_ ?_
        · rintro j y H20 H21 hj p ⟨rfl, rfl⟩
          exact ⟨rfl, pickS (js := 1) (jt := 8) L19.sat nD p rfl rfl (by omega) (by omega) (by omega) (by omega)⟩
        rintro H20 ⟨s20, b20, ds, hdl, hds, kD⟩
        have L20 := L19.but b20 s20
        have M20 := M19.but b20 L19.sat.off
        obtain ⟨f1, f2, of, lf⟩ := pick_join (by omega) hds kD
        clear L19 M19 s20 b20 kD nD
        refine ⟨"", D, ds.map sg, rfl, rfl, .inl (.inl (.inl f1)), f2, ?_⟩
        generalize Txt.join "" (ds.map sg) = so at of lf ⊢
        clear f1 f2
        -- judged
        have of2 : OfL ls.cps.toList so := fun c hc => po c (of c hc)
        have ml := mul_len pz 40
        have om := ofl_mul (n := 40) po
        have c1 := app_len u (Txt.mul pz ((40 : Nat) : Int))
        have c2 := app_len (u ++ Txt.mul pz ((40 : Nat) : Int)) v
        have c3 := app_len (u ++ Txt.mul pz ((40 : Nat) : Int)) so
        have c4 := app_len (u ++ Txt.mul pz ((40 : Nat) : Int) ++ so) (Txt.mul pz ((40 : Nat) : Int))
        have c5 := app_len (u ++ Txt.mul pz ((40 : Nat) : Int) ++ so ++ Txt.mul pz ((40 : Nat) : Int)) v
        have lso : so.length ≤ 4 := by omega
        obtain ⟨mdx, mL, mvs, m1, m2, m3, _⟩ := id M20
        refine ⟨_, rfl, x, mdx, _, rfl, m1, mcf_no ls mL (by decide +kernel) (by decide +kernel), _, rfl, _, rfl, pz, 40, rfl, rfl, by omega, by omega, _, _, rfl, rfl, by omega, _, rfl, _, _, rfl, rfl, by omega, ?_⟩
        refine ⟨x, ls, _, R, rfl, M20.at_, W, h60, ok_word (by omega) (ofl_app (ofl_app ou om) ov), lo.nd, by omega, fun H21 g21 => ?_⟩
        refine ⟨_, rfl, x, mdx, _, rfl, g21 _ _ m1, mcf_no ls mL (by decide +kernel) (by decide +kernel), _, rfl, _, rfl, pz, 40, rfl, rfl, by omega, by omega, _, _, rfl, rfl, by omega, _, rfl, _, _, rfl, rfl, by omega, _, rfl, pz, 40, rfl, rfl, by omega, by omega, _, _, rfl, rfl, by omega, _, rfl, _, _, rfl, rfl, by omega, ?_⟩
        refine ⟨x, ls, _, R, rfl, (M20.grows g21).at_, W, h60, ok_word (by omega) (ofl_app (ofl_app (ofl_app (ofl_app ou om) of2) om) ov), lo.nd, by omega, fun H22 g22 => ?_⟩
        have lt : ∀ {z : Str}, OfL ls.cps.toList z → Lw ls.length (wi ls.cps.toList z) := fun o j hj => by rw [← lsl]; exact wi_lt o j hj
        have eqw : tkR R 0 (wi ls.cps.toList (u ++ Txt.mul pz ((40 : Nat) : Int) ++ v)) = tkR R 0 (wi ls.cps.toList (u ++ Txt.mul pz ((40 : Nat) : Int) ++ so ++ Txt.mul pz ((40 : Nat) : Int) ++ v)) := by
          rw [← Sm _ (lt (ofl_app (ofl_app ou om) ov)), ← Sm _ (lt (ofl_app (ofl_app (ofl_app (ofl_app ou om) of2) om) ov))]
          rw [wi_app, wi_app, wi_app, wi_app, wi_app, wi_app, wi_mul]
          refine forty_tk Ws El (by rw [List.length_map]; exact u24) da (lt po) (fun e => ?_) (fun j hj => ?_) _ _
          · have : (wi ls.cps.toList pz).length = pz.length := by unfold wi; rw [List.length_map, cut_len]
            rw [e] at this
            have h0 : ([] : List Nat).length = 0 := rfl
            omega
          · unfold wi at hj ⊢
            obtain ⟨c, hc, rfl⟩ := List.mem_map.mp hj
            exact List.mem_map.mpr ⟨c, of c hc, rfl⟩
        refine ⟨rfl, _, rfl, if_neg_of (by rw [eqw, decide_eq_true rfl]; decide) ?_⟩
        exact ⟨⟨_, _, _, _, _, _, _, _, _, rfl⟩, ((L20.grows g21).grows g22).mono (by omega), (M20.grows g21).grows g22⟩
      · rintro σ H13 ⟨⟨w7, w8, w9, w10, w11, w12, w13, w14, w15, rfl⟩, L13, M13⟩
        exact ⟨⟨_, _, _, _, _, _, _, _, _, _, _, _, _, _, rfl⟩, L13.mono (by show 2000 * i + 1 + 400 + 300 * 4 ≤ 2000 * (i + 1); omega)⟩
  · rintro σ H2 ⟨⟨v2, v3, v4, v5, v6, v7, v8, v9, v10, v11, v12, v13, v14, v15, rfl⟩, L⟩
    have tab := L.tab
    clear L L1
    generalize H2 = Hc1 at tab ⊢
    refine ⟨by show 2 ≤ sizeLine; omega, fun p10 np10 => ?_⟩
    have g_p10 : Grows Hc1 (upd Hc1 p10 (.tup [.int 1, .int 0])) := Grows.new np10
    have k_p10 : upd Hc1 p10 (.tup [.int 1, .int 0]) p10 = some (.tup [.int 1, .int 0]) := upd_same
    have tab := tab.ext g_p10
    generalize upd Hc1 p10 (.tup [.int 1, .int 0]) = H_p10 at g_p10 k_p10    tab ⊢
    clear g_p10 np10
    refine ⟨by show 2 ≤ sizeLine; omega, fun r10 nr10 => ?_⟩
    have g_r10 : Grows H_p10 (upd H_p10 r10 (.tup [.bl false, .ref p10])) := Grows.new nr10
    have k_r10 : upd H_p10 r10 (.tup [.bl false, .ref p10]) r10 = some (.tup [.bl false, .ref p10]) := upd_same
    have k_p10 := g_r10 _ _ k_p10
    have tab := tab.ext g_r10
    generalize upd H_p10 r10 (.tup [.bl false, .ref p10]) = H_r10 at g_r10 k_r10 k_p10   tab ⊢
    clear g_r10 nr10
    have w10 : RowAt H_r10 (.ref r10) (false, [1, 0]) := ⟨r10, p10, rfl, k_r10, k_p10⟩
    clear k_r10 k_p10
    refine ⟨by show 2 ≤ sizeLine; omega, fun p11 np11 => ?_⟩
    have g_p11 : Grows H_r10 (upd H_r10 p11 (.tup [.int 1, .int 2])) := Grows.new np11
    have k_p11 : upd H_r10 p11 (.tup [.int 1, .int 2]) p11 = some (.tup [.int 1, .int 2]) := upd_same
    have w10 := w10.grows g_p11
    have tab := tab.ext g_p11
    generalize upd H_r10 p11 (.tup [.int 1, .int 2]) = H_p11 at g_p11 k_p11  w10  tab ⊢
    clear g_p11 np11
    refine ⟨by show 2 ≤ sizeLine; omega, fun r11 nr11 => ?_⟩
    have g_r11 : Grows H_p11 (upd H_p11 r11 (.tup [.bl false, .ref p11])) := Grows.new nr11
    have k_r11 : upd H_p11 r11 (.tup [.bl false, .ref p11]) r11 = some (.tup [.bl false, .ref p11]) := upd_same
    have k_p11 := g_r11 _ _ k_p11
    have w10 := w10.grows g_r11
    have tab := tab.ext g_r11
    generalize upd H_p11 r11 (.tup [.bl false, .ref p11]) = H_r11 at g_r11 k_r11 k_p11 w10  tab ⊢
    clear g_r11 nr11
    have w11 : RowAt H_r11 (.ref r11) (false, [1, 2]) := ⟨r11, p11, rfl, k_r11, k_p11⟩
    clear k_r11 k_p11
    refine ⟨by show 2 ≤ sizeLine; omega, fun p12 np12 => ?_⟩
    have g_p12 : Grows H_r11 (upd H_r11 p12 (.tup [.int 2, .int 2])) := Grows.new np12
    have k_p12 : upd H_r11 p12 (.tup [.int 2, .int 2]) p12 = some (.tup [.int 2, .int 2]) := upd_same
    have w10 := w10.grows g_p12
    have w11 := w11.grows g_p12
    have tab := tab.ext g_p12
    generalize upd H_r11 p12 (.tup [.int 2, .int 2]) = H_p12 at g_p12 k_p12  w10 w11  tab ⊢
    clear g_p12 np12
    refine ⟨by show 2 ≤ sizeLine; omega, fun r12 nr12 => ?_⟩
    have g_r12 : Grows H_p12 (upd H_p12 r12 (.tup [.bl true, .ref p12])) := Grows.new nr12
    have k_r12 : upd H_p12 r12 (.tup [.bl true, .ref p12]) r12 = some (.tup [.bl true, .ref p12]) := upd_same
    have k_p12 := g_r12 _ _ k_p12
    have w10 := w10.grows g_r12
    have w11 := w11.grows g_r12
    have tab := tab.ext g_r12
    generalize upd H_p12 r12 (.tup [.bl true, .ref p12]) = H_r12 at g_r12 k_r12 k_p12 w10 w11  tab ⊢
    clear g_r12 nr12
    have w12 : RowAt H_r12 (.ref r12) (true, [2, 2]) := ⟨r12, p12, rfl, k_r12, k_p12⟩
    clear k_r12 k_p12
    refine ⟨by show 3 ≤ sizeLine; omega, fun l1 nl1 => ?_⟩
    have g_l1 : Grows H_r12 (upd H_r12 l1 (.lst [.ref r10, .ref r11, .ref r12])) := Grows.new nl1
    have k_l1 : upd H_r12 l1 (.lst [.ref r10, .ref r11, .ref r12]) l1 = some (.lst [.ref r10, .ref r11, .ref r12]) := upd_same
    have w10 := w10.grows g_l1
    have w11 := w11.grows g_l1
    have w12 := w12.grows g_l1
    have tab := tab.ext g_l1
    generalize upd H_r12 l1 (.lst [.ref r10, .ref r11, .ref r12]) = H_l1 at g_l1 k_l1  w10 w11 w12  tab ⊢
    clear g_l1 nl1
    have hr1 : RowsAt H_l1 [V.ref r10, V.ref r11, V.ref r12] strewnR := ⟨rfl, fun i v r h1 h2 => by
      rcases i with _ | _ | _ | i
      · rw [← Option.some.inj h1, ← Option.some.inj h2]; exact w10
      · rw [← Option.some.inj h1, ← Option.some.inj h2]; exact w11
      · rw [← Option.some.inj h1, ← Option.some.inj h2]; exact w12
      · cases h1⟩
    refine fun x1 d1 nx ndx dne => ?_
    have gM : Grows H_l1 (upd (upd H_l1 d1 (.own x1)) x1 (.ins C d1 [])) := fun c o e => by
      rw [upd_ne (ne_of_none e nx), upd_ne (ne_of_none e ndx)]
      exact e
    refine ⟨x1, d1, l1, "ab", _, strewnR, rfl, upd_same, by decide +kernel, by decide, gM _ _ k_l1, hr1.grows gM, con_strewn.wf, by decide, fun Hc2 LL1 h1 h2 h3 h4 h5 => ⟨rfl, ?_⟩⟩
    have gg : Grows H_l1 Hc2 := fun c o e => h5 c o (ne_of_none e nx) (gM _ _ e)
    have ma1 : MachAt Hc2 x1 C "ab" strewnR := ⟨d1, LL1, _, h1, h4, hr1.grows gg⟩
    have tab := tab.ext gg
    clear gM nx ndx h1 h2 h3 h4 h5 gg k_l1 hr1 w10 w11 w12
    refine ⟨by show 3 ≤ sizeLine; omega, fun p20 np20 => ?_⟩
    have g_p20 : Grows Hc2 (upd Hc2 p20 (.tup [.int 1, .int 0, .int 0])) := Grows.new np20
    have k_p20 : upd Hc2 p20 (.tup [.int 1, .int 0, .int 0]) p20 = some (.tup [.int 1, .int 0, .int 0]) := upd_same
    have ma1 := ma1.grows g_p20
    have tab := tab.ext g_p20
    generalize upd Hc2 p20 (.tup [.int 1, .int 0, .int 0]) = H_p20 at g_p20 k_p20   ma1 tab ⊢
    clear g_p20 np20
    refine ⟨by show 2 ≤ sizeLine; omega, fun r20 nr20 => ?_⟩
    have g_r20 : Grows H_p20 (upd H_p20 r20 (.tup [.bl false, .ref p20])) := Grows.new nr20
    have k_r20 : upd H_p20 r20 (.tup [.bl false, .ref p20]) r20 = some (.tup [.bl false, .ref p20]) := upd_same
    have k_p20 := g_r20 _ _ k_p20
    have ma1 := ma1.grows g_r20
    have tab := tab.ext g_r20
    generalize upd H_p20 r20 (.tup [.bl false, .ref p20]) = H_r20 at g_r20 k_r20 k_p20  ma1 tab ⊢
    clear g_r20 nr20
    have w20 : RowAt H_r20 (.ref r20) (false, [1, 0, 0]) := ⟨r20, p20, rfl, k_r20, k_p20⟩
    clear k_r20 k_p20
    refine ⟨by show 3 ≤ sizeLine; omega, fun p21 np21 => ?_⟩
    have g_p21 : Grows H_r20 (upd H_r20 p21 (.tup [.int 1, .int 2, .int 0])) := Grows.new np21
    have k_p21 : upd H_r20 p21 (.tup [.int 1, .int 2, .int 0]) p21 = some (.tup [.int 1, .int 2, .int 0]) := upd_same
    have w20 := w20.grows g_p21
    have ma1 := ma1.grows g_p21
    have tab := tab.ext g_p21
    generalize upd H_r20 p21 (.tup [.int 1, .int 2, .int 0]) = H_p21 at g_p21 k_p21  w20 ma1 tab ⊢
    clear g_p21 np21
    refine ⟨by show 2 ≤ sizeLine; omega, fun r21 nr21 => ?_⟩
    have g_r21 : Grows H_p21 (upd H_p21 r21 (.tup [.bl false, .ref p21])) := Grows.new nr21
    have k_r21 : upd H_p21 r21 (.tup [.bl false, .ref p21]) r21 = some (.tup [.bl false, .ref p21]) := upd_same
    have k_p21 := g_r21 _ _ k_p21
    have w20 := w20.grows g_r21
    have ma1 := ma1.grows g_r21
    have tab := tab.ext g_r21
    generalize upd H_p21 r21 (.tup [.bl false, .ref p21]) = H_r21 at g_r21 k_r21 k_p21 w20 ma1 tab ⊢
    clear g_r21 nr21
    have w21 : RowAt H_r21 (.ref r21) (false, [1, 2, 0]) := ⟨r21, p21, rfl, k_r21, k_p21⟩
    clear k_r21 k_p21
    refine ⟨by show 3 ≤ sizeLine; omega, fun p22 np22 => ?_⟩
    have g_p22 : Grows H_r21 (upd H_r21 p22 (.tup [.int 2, .int 2, .int 2])) := Grows.new np22
    have k_p22 : upd H_r21 p22 (.tup [.int 2, .int 2, .int 2]) p22 = some (.tup [.int 2, .int 2, .int 2]) := upd_same
    have w20 := w20.grows g_p22
    have w21 := w21.grows g_p22
    have ma1 := ma1.grows g_p22
    have tab := tab.ext g_p22
    generalize upd H_r21 p22 (.tup [.int 2, .int 2, .int 2]) = H_p22 at g_p22 k_p22  w20 w21 ma1 tab ⊢
    clear g_p22 np22
    refine ⟨by show 2 ≤ sizeLine; omega, fun r22 nr22 => ?_⟩
    have g_r22 : Grows H_p22 (upd H_p22 r22 (.tup [.bl true, .ref p22])) := Grows.new nr22
    have k_r22 : upd H_p22 r22 (.tup [.bl true, .ref p22]) r22 = some (.tup [.bl true, .ref p22]) := upd_same
    have k_p22 := g_r22 _ _ k_p22
    have w20 := w20.grows g_r22
    have w21 := w21.grows g_r22
    have ma1 := ma1.grows g_r22
    have tab := tab.ext g_r22
    generalize upd H_p22 r22 (.tup [.bl true, .ref p22]) = H_r22 at g_r22 k_r22 k_p22 w20 w21 ma1 tab ⊢
    clear g_r22 nr22
    have w22 : RowAt H_r22 (.ref r22) (true, [2, 2, 2]) := ⟨r22, p22, rfl, k_r22, k_p22⟩
    clear k_r22 k_p22
    refine ⟨by show 3 ≤ sizeLine; omega, fun l2 nl2 => ?_⟩
    have g_l2 : Grows H_r22 (upd H_r22 l2 (.lst [.ref r20, .ref r21, .ref r22])) := Grows.new nl2
    have k_l2 : upd H_r22 l2 (.lst [.ref r20, .ref r21, .ref r22]) l2 = some (.lst [.ref r20, .ref r21, .ref r22]) := upd_same
    have w20 := w20.grows g_l2
    have w21 := w21.grows g_l2
    have w22 := w22.grows g_l2
    have ma1 := ma1.grows g_l2
    have tab := tab.ext g_l2
    generalize upd H_r22 l2 (.lst [.ref r20, .ref r21, .ref r22]) = H_l2 at g_l2 k_l2  w20 w21 w22 ma1 tab ⊢
    clear g_l2 nl2
    have hr2 : RowsAt H_l2 [V.ref r20, V.ref r21, V.ref r22] stretchR := ⟨rfl, fun i v r h1 h2 => by
      rcases i with _ | _ | _ | i
      · rw [← Option.some.inj h1, ← Option.some.inj h2]; exact w20
      · rw [← Option.some.inj h1, ← Option.some.inj h2]; exact w21
      · rw [← Option.some.inj h1, ← Option.some.inj h2]; exact w22
      · cases h1⟩
    refine fun x2 d2 nx ndx dne => ?_
    have gM : Grows H_l2 (upd (upd H_l2 d2 (.own x2)) x2 (.ins C d2 [])) := fun c o e => by
      rw [upd_ne (ne_of_none e nx), upd_ne (ne_of_none e ndx)]
      exact e
    refine ⟨x2, d2, l2, "abc", _, stretchR, rfl, upd_same, by decide +kernel, by decide, gM _ _ k_l2, hr2.grows gM, con_stretch.wf, by decide, fun Hc3 LL2 h1 h2 h3 h4 h5 => ⟨rfl, ?_⟩⟩
    have gg : Grows H_l2 Hc3 := fun c o e => h5 c o (ne_of_none e nx) (gM _ _ e)
    have ma2 : MachAt Hc3 x2 C "abc" stretchR := ⟨d2, LL2, _, h1, h4, hr2.grows gg⟩
    have ma1 := ma1.grows gg
    have tab := tab.ext gg
    clear gM nx ndx h1 h2 h3 h4 h5 gg k_l2 hr2 w20 w21 w22
    refine ⟨by show 1 ≤ sizeLine; omega, fun p30 np30 => ?_⟩
    have g_p30 : Grows Hc3 (upd Hc3 p30 (.tup [.int 1])) := Grows.new np30
    have k_p30 : upd Hc3 p30 (.tup [.int 1]) p30 = some (.tup [.int 1]) := upd_same
    have ma1 := ma1.grows g_p30
    have ma2 := ma2.grows g_p30
    have tab := tab.ext g_p30
    generalize upd Hc3 p30 (.tup [.int 1]) = H_p30 at g_p30 k_p30   ma1 ma2 tab ⊢
    clear g_p30 np30
    refine ⟨by show 2 ≤ sizeLine; omega, fun r30 nr30 => ?_⟩
    have g_r30 : Grows H_p30 (upd H_p30 r30 (.tup [.bl true, .ref p30])) := Grows.new nr30
    have k_r30 : upd H_p30 r30 (.tup [.bl true, .ref p30]) r30 = some (.tup [.bl true, .ref p30]) := upd_same
    have k_p30 := g_r30 _ _ k_p30
    have ma1 := ma1.grows g_r30
    have ma2 := ma2.grows g_r30
    have tab := tab.ext g_r30
    generalize upd H_p30 r30 (.tup [.bl true, .ref p30]) = H_r30 at g_r30 k_r30 k_p30  ma1 ma2 tab ⊢
    clear g_r30 nr30
    have w30 : RowAt H_r30 (.ref r30) (true, [1]) := ⟨r30, p30, rfl, k_r30, k_p30⟩
    clear k_r30 k_p30
    refine ⟨by show 1 ≤ sizeLine; omega, fun p31 np31 => ?_⟩
    have g_p31 : Grows H_r30 (upd H_r30 p31 (.tup [.int 0])) := Grows.new np31
    have k_p31 : upd H_r30 p31 (.tup [.int 0]) p31 = some (.tup [.int 0]) := upd_same
    have w30 := w30.grows g_p31
    have ma1 := ma1.grows g_p31
    have ma2 := ma2.grows g_p31
    have tab := tab.ext g_p31
    generalize upd H_r30 p31 (.tup [.int 0]) = H_p31 at g_p31 k_p31  w30 ma1 ma2 tab ⊢
    clear g_p31 np31
    refine ⟨by show 2 ≤ sizeLine; omega, fun r31 nr31 => ?_⟩
    have g_r31 : Grows H_p31 (upd H_p31 r31 (.tup [.bl false, .ref p31])) := Grows.new nr31
    have k_r31 : upd H_p31 r31 (.tup [.bl false, .ref p31]) r31 = some (.tup [.bl false, .ref p31]) := upd_same
    have k_p31 := g_r31 _ _ k_p31
    have w30 := w30.grows g_r31
    have ma1 := ma1.grows g_r31
    have ma2 := ma2.grows g_r31
    have tab := tab.ext g_r31
    generalize upd H_p31 r31 (.tup [.bl false, .ref p31]) = H_r31 at g_r31 k_r31 k_p31 w30 ma1 ma2 tab ⊢
    clear g_r31 nr31
    have w31 : RowAt H_r31 (.ref r31) (false, [0]) := ⟨r31, p31, rfl, k_r31, k_p31⟩
    clear k_r31 k_p31
    refine ⟨by show 2 ≤ sizeLine; omega, fun l3 nl3 => ?_⟩
    have g_l3 : Grows H_r31 (upd H_r31 l3 (.lst [.ref r30, .ref r31])) := Grows.new nl3
    have k_l3 : upd H_r31 l3 (.lst [.ref r30, .ref r31]) l3 = some (.lst [.ref r30, .ref r31]) := upd_same
    have w30 := w30.grows g_l3
    have w31 := w31.grows g_l3
    have ma1 := ma1.grows g_l3
    have ma2 := ma2.grows g_l3
    have tab := tab.ext g_l3
    generalize upd H_r31 l3 (.lst [.ref r30, .ref r31]) = H_l3 at g_l3 k_l3  w30 w31 ma1 ma2 tab ⊢
    clear g_l3 nl3
    have hr3 : RowsAt H_l3 [V.ref r30, V.ref r31] evenR := ⟨rfl, fun i v r h1 h2 => by
      rcases i with _ | _ | i
      · rw [← Option.some.inj h1, ← Option.some.inj h2]; exact w30
      · rw [← Option.some.inj h1, ← Option.some.inj h2]; exact w31
      · cases h1⟩
    refine fun x3 d3 nx ndx dne => ?_
    have gM : Grows H_l3 (upd (upd H_l3 d3 (.own x3)) x3 (.ins C d3 [])) := fun c o e => by
      rw [upd_ne (ne_of_none e nx), upd_ne (ne_of_none e ndx)]
      exact e
    refine ⟨x3, d3, l3, "a", _, evenR, rfl, upd_same, by decide +kernel, by decide, gM _ _ k_l3, hr3.grows gM, con_even.wf, by decide, fun Hc4 LL3 h1 h2 h3 h4 h5 => ⟨rfl, ?_⟩⟩
    have gg : Grows H_l3 Hc4 := fun c o e => h5 c o (ne_of_none e nx) (gM _ _ e)
    have ma3 : MachAt Hc4 x3 C "a" evenR := ⟨d3, LL3, _, h1, h4, hr3.grows gg⟩
    have ma1 := ma1.grows gg
    have ma2 := ma2.grows gg
    have tab := tab.ext gg
    clear gM nx ndx h1 h2 h3 h4 h5 gg k_l3 hr3 w30 w31
    have tr : ∀ {b : Bool} {X : Prop} {b0 : Bool}, (b = true ↔ X) → (X ↔ b0 = true) → b = b0 := fun h1 h2 => by rw [Bool.eq_iff_iff, h1, h2]
    refine ⟨_, rfl, x1, "ab", strewnR, rfl, ma1, by decide +kernel, by decide, by decide, by decide, con_strewn.wf, by decide, tab, con_strewn.few, fun Hd b1 e1 n1 t1 i1 => ?_⟩
    obtain rfl := tr i1 con_strewn.da
    have ma2 := ma2.ext e1
    have ma3 := ma3.ext e1
    refine ⟨_, rfl, x2, "abc", stretchR, rfl, ma2, by decide +kernel, by decide, by decide, by decide, con_stretch.wf, by decide, t1, con_stretch.few, fun He b2 e2 n2 t2 i2 => ?_⟩
    obtain rfl := tr i2 con_stretch.da
    have ma3 := ma3.ext e2
    refine ⟨_, rfl, x3, "a", evenR, rfl, ma3, by decide +kernel, by decide, by decide, by decide, con_even.wf, by decide, t2, con_even.few, fun Hf b3 e3 n3 t3 i3 => ?_⟩
    obtain rfl := tr i3 con_even.da
    refine ⟨by show 3 ≤ sizeLine; omega, fun u1 nu1 => ⟨by show 3 ≤ sizeLine; omega, fun u2 nu2 => ?_⟩⟩
    have k1 : upd Hf u1 (.tup [.bl true, .bl false, .bl false]) u1 = some (.tup [.bl true, .bl false, .bl false]) := upd_same
    exact ⟨.ref u1, .ref u2, .tuple [.bool true, .bool false, .bool false], rfl, .tup (.inl (.inl (Grows.new nu2 _ _ k1))) (.cons (.bl _) (.cons (.bl _) (.cons (.bl _) .nil))), .tup (.inl (.inl upd_same)) (.cons (.bl _) (.cons (.bl _) (.cons (.bl _) .nil))),
      ⟨by decide +kernel, by decide +kernel, by decide +kernel, by decide +kernel, by decide +kernel⟩, by decide +kernel, fun H' g => q H'⟩
end
end SWL
set_option Elab.async false
set_option linter.all false
set_option maxRecDepth 100000
set_option maxHeartbeats 16000000
namespace SWL
open PySem PySem.Spec PyProof.Rows L2 LamX NdefX
/-! the facts of the top, gathered -/
theorem exm_by {K : PySem.W.Frag} {C : Value} {S : Addr} (h1 : PySem.W.subIn K (.ref S) (.type "BaseException") = some true) (h2 : PySem.W.isClsIn K S = true) (h3 : PySem.W.typeIn K (.ref S) = some (.type "type")) (h4 : PySem.W.subIn K C (.ref S) = some true) : PySem.W.exmOne K C (.ref S) = some true := by
  have e1 : (PySem.W.subIn K (.ref S) (.type "BaseException") == some true) = true := by rw [h1] <;> rfl
  have e2 : ((PySem.W.clsIn K S).isSome && PySem.W.typeIn K (.ref S) == some (.type "type")) = true := by
    have h5 : (PySem.W.clsIn K S).isSome = true := h2
    rw [h5, h3] <;> rfl
  show (if (PySem.W.subIn K (.ref S) (.type "BaseException") == some true) = true then (if ((PySem.W.clsIn K S).isSome && PySem.W.typeIn K (.ref S) == some (.type "type")) = true then PySem.W.subIn K C (.ref S) else none) else none) = some true
  rw [if_pos e1, if_pos e2]
  exact h4
theorem all_mk {l : PySem.W.OpenLaw} {w : World} {K : PySem.W.Frag} {h : Heap} {mg : Str → Option Value} {q : Program} {loose : List Str} {mean : ExcName → Option Value} {mb : Str → Option Value} {dL : DefRec} {fa : Addr} (X : K.In h) (G : h.Ns mainGlobals mg) (T : Top q loose mean mg mb h) (hfa : mg "law" = some (.ref fa))
    {f0 f1 f2 f3 f4 f5 f6 f7 f8 f9 f10 f11 f12 f13 f14 f15 f16 f17 f18 f19 f20 f21 f22 f23 f24 f25 f26 f27 C fm0 fm1 fm2 fm3 fm4 CG fg0 fg1 fg2 fg3 fg4 fg5 fg6 fg7 Dk Dw Ds cL Pl CS CN CW : Addr} {oc0 dc0 pm0 ct0 kV0 cd0 oc1 dc1 pm1 ct1 kV1 cd1 oc2 dc2 pm2 ct2 kV2 cd2 oc3 dc3 pm3 ct3 kV3 cd3 oc4 dc4 pm4 ct4 cd4 oc5 dc5 pm5 ct5 kV5 cd5 oc6 dc6 pm6 ct6 kV6 cd6 oc7 dc7 pm7 ct7 kV7 cd7 oc8 dc8 pm8 ct8 kV8 cd8 oc9 dc9 pm9 ct9 cd9 oc10 dc10 pm10 ct10 kV10 oc11 dc11 pm11 ct11 kV11 cd11 oc12 dc12 pm12 ct12 kV12 cd12 oc13 dc13 pm13 ct13 kV13 cd13 oc14 dc14 pm14 ct14 kV14 cd14 oc15 dc15 pm15 ct15 kV15 cd15 oc16 dc16 pm16 ct16 kV16 cd16 oc17 dc17 pm17 ct17 kV17 cd17 oc18 dc18 pm18 ct18 kV18 cd18 oc19 dc19 pm19 ct19 kV19 cd19 oc20 dc20 pm20 ct20 kV20 cd20 oc21 dc21 pm21 ct21 kV21 cd21 oc22 dc22 pm22 ct22 kV22 cd22 oc23 dc23 pm23 ct23 kV23 cd23 oc24 dc24 pm24 ct24 kV24 cd24 oc25 dc25 pm25 ct25 kV25 cd25 oc26 dc26 pm26 ct26 kV26 cd26 oc27 dc27 pm27 ct27 kV27 cd27 ocm0 dcm0 pmm0 ctm0 cdm0 kVm0 ocm1 dcm1 pmm1 ctm1 cdm1 kVm1 ocm2 dcm2 pmm2 ctm2 cdm2 kVm2 ocm3 dcm3 pmm3 ctm3 cdm3 ocm4 dcm4 pmm4 ctm4 cdm4 kVm4 ocg0 dcg0 pmg0 ctg0 cdg0 kVg0 ocg1 dcg1 pmg1 ctg1 cdg1 kVg1 ocg2 dcg2 pmg2 ctg2 cdg2 kVg2 ocg3 dcg3 pmg3 ctg3 cdg3 kVg3 ocg4 dcg4 pmg4 ctg4 cdg4 kVg4 ocg5 dcg5 pmg5 ctg5 cdg5 kVg5 ocg6 dcg6 pmg6 ctg6 cdg6 kVg6 ocg7 dcg7 pmg7 ctg7 cdg7 kVg7 ocT : Value} {od0 an0 od1 an1 od2 an2 od3 an3 od4 an4 od5 an5 od6 an6 od7 an7 od8 an8 od9 an9 od10 an10 od11 an11 od12 an12 od13 an13 od14 an14 od15 an15 od16 an16 od17 an17 od18 an18 od19 an19 od20 an20 od21 an21 od22 an22 od23 an23 od24 an24 od25 an25 od26 an26 od27 an27 odm0 anm0 odm1 anm1 odm2 anm2 odm3 anm3 odm4 anm4 odg0 ang0 odg1 ang1 odg2 ang2 odg3 ang3 odg4 ang4 odg5 ang5 odg6 ang6 odg7 ang7 odT : Option Addr} {sl0 sl1 sl2 sl3 sl4 sl5 sl6 sl7 sl8 sl9 sl10 sl11 sl12 sl13 sl14 sl15 sl16 sl17 sl18 sl19 sl20 sl21 sl22 sl23 sl24 sl25 sl26 sl27 slm0 slm1 slm2 slm3 slm4 slg0 slg1 slg2 slg3 slg4 slg5 slg6 slg7 slT : Array (Option Value)} {tS tL tT tE tkDk tkDw tkDs : Tok} {vsT : Array Value}
    (hrec : (recsOf q).find? (fun e => e.name == ("least" : Str)) = some dL)
    (a0 : PySem.W.nsIn K mainGlobals "is_number" = some (some (.ref f0)))
    (l0 : K.lookup f0 = some ⟨oc0, od0, .func (PySem.W.fnOf "is_number" "is_number" (defArgs sIsNum) (defBody sIsNum) (defScope sIsNum) .none kV0 dc0 pm0 an0 cd0 ct0), sl0⟩)
    (c0 : PySem.W.codeIn K cd0 "is_number" = true)
    (k0 : PySem.W.keepIn K (.ref f0) = true)
    (a1 : PySem.W.nsIn K mainGlobals "is_letters" = some (some (.ref f1)))
    (l1 : K.lookup f1 = some ⟨oc1, od1, .func (PySem.W.fnOf "is_letters" "is_letters" (defArgs sIsL) (defBody sIsL) (defScope sIsL) .none kV1 dc1 pm1 an1 cd1 ct1), sl1⟩)
    (c1 : PySem.W.codeIn K cd1 "is_letters" = true)
    (k1 : PySem.W.keepIn K (.ref f1) = true)
    (a2 : PySem.W.nsIn K mainGlobals "need_letters" = some (some (.ref f2)))
    (l2 : K.lookup f2 = some ⟨oc2, od2, .func (PySem.W.fnOf "need_letters" "need_letters" (defArgs sNeedL) (defBody sNeedL) (defScope sNeedL) .none kV2 dc2 pm2 an2 cd2 ct2), sl2⟩)
    (c2 : PySem.W.codeIn K cd2 "need_letters" = true)
    (k2 : PySem.W.keepIn K (.ref f2) = true)
    (a3 : PySem.W.nsIn K mainGlobals "is_word_to" = some (some (.ref f3)))
    (l3 : K.lookup f3 = some ⟨oc3, od3, .func (PySem.W.fnOf "is_word_to" "is_word_to" (defArgs sIsW) (defBody sIsW) (defScope sIsW) .none kV3 dc3 pm3 an3 cd3 ct3), sl3⟩)
    (c3 : PySem.W.codeIn K cd3 "is_word_to" = true)
    (k3 : PySem.W.keepIn K (.ref f3) = true)
    (a4 : PySem.W.nsIn K mainGlobals "need_word" = some (some (.ref f4)))
    (l4 : K.lookup f4 = some ⟨oc4, od4, .func (PySem.W.fnOf "need_word" "need_word" (defArgs sNeedW) (defBody sNeedW) (defScope sNeedW) .none (.ref Dw) dc4 pm4 an4 cd4 ct4), sl4⟩)
    (c4 : PySem.W.codeIn K cd4 "need_word" = true)
    (k4 : PySem.W.keepIn K (.ref f4) = true)
    (a5 : PySem.W.nsIn K mainGlobals "is_stand" = some (some (.ref f5)))
    (l5 : K.lookup f5 = some ⟨oc5, od5, .func (PySem.W.fnOf "is_stand" "is_stand" (defArgs sIsStand) (defBody sIsStand) (defScope sIsStand) .none kV5 dc5 pm5 an5 cd5 ct5), sl5⟩)
    (c5 : PySem.W.codeIn K cd5 "is_stand" = true)
    (k5 : PySem.W.keepIn K (.ref f5) = true)
    (a6 : PySem.W.nsIn K mainGlobals "gone_through" = some (some (.ref f6)))
    (l6 : K.lookup f6 = some ⟨oc6, od6, .func (PySem.W.fnOf "gone_through" "gone_through" (defArgs sGone) (defBody sGone) (defScope sGone) .none kV6 dc6 pm6 an6 cd6 ct6), sl6⟩)
    (c6 : PySem.W.codeIn K cd6 "gone_through" = true)
    (k6 : PySem.W.keepIn K (.ref f6) = true)
    (a7 : PySem.W.nsIn K mainGlobals "classed" = some (some (.ref f7)))
    (l7 : K.lookup f7 = some ⟨oc7, od7, .func (PySem.W.fnOf "classed" "classed" (defArgs sClassed) (defBody sClassed) (defScope sClassed) .none kV7 dc7 pm7 an7 cd7 ct7), sl7⟩)
    (c7 : PySem.W.codeIn K cd7 "classed" = true)
    (k7 : PySem.W.keepIn K (.ref f7) = true)
    (a8 : PySem.W.nsIn K mainGlobals "least_rows" = some (some (.ref f8)))
    (l8 : K.lookup f8 = some ⟨oc8, od8, .func (PySem.W.fnOf "least_rows" "least_rows" (defArgs sLeastRows) (defBody sLeastRows) (defScope sLeastRows) .none kV8 dc8 pm8 an8 cd8 ct8), sl8⟩)
    (c8 : PySem.W.codeIn K cd8 "least_rows" = true)
    (k8 : PySem.W.keepIn K (.ref f8) = true)
    (a9 : PySem.W.nsIn K mainGlobals "built" = some (some (.ref f9)))
    (l9 : K.lookup f9 = some ⟨oc9, od9, .func (PySem.W.fnOf "built" "built" (defArgs sBuilt) (defBody sBuilt) (defScope sBuilt) .none (.ref Dk) dc9 pm9 an9 cd9 ct9), sl9⟩)
    (c9 : PySem.W.codeIn K cd9 "built" = true)
    (k9 : PySem.W.keepIn K (.ref f9) = true)
    (a10 : PySem.W.nsIn K mainGlobals "least" = some (some (.ref f10)))
    (l10 : K.lookup f10 = some ⟨oc10, od10, .func (PySem.W.fnOf "least" "least" (defArgs sLeastM) (defBody sLeastM) (defScope sLeastM) .none kV10 dc10 pm10 an10 (.ref cL) ct10), sl10⟩)
    (c10 : PySem.W.codeIn K (.ref cL) "least" = true)
    (k10 : PySem.W.keepIn K (.ref f10) = true)
    (a11 : PySem.W.nsIn K mainGlobals "made_of" = some (some (.ref f11)))
    (l11 : K.lookup f11 = some ⟨oc11, od11, .func (PySem.W.fnOf "made_of" "made_of" (defArgs sMadeOf) (defBody sMadeOf) (defScope sMadeOf) .none kV11 dc11 pm11 an11 cd11 ct11), sl11⟩)
    (c11 : PySem.W.codeIn K cd11 "made_of" = true)
    (k11 : PySem.W.keepIn K (.ref f11) = true)
    (a12 : PySem.W.nsIn K mainGlobals "first_unturned" = some (some (.ref f12)))
    (l12 : K.lookup f12 = some ⟨oc12, od12, .func (PySem.W.fnOf "first_unturned" "first_unturned" (defArgs sUnturned) (defBody sUnturned) (defScope sUnturned) .none kV12 dc12 pm12 an12 cd12 ct12), sl12⟩)
    (c12 : PySem.W.codeIn K cd12 "first_unturned" = true)
    (k12 : PySem.W.keepIn K (.ref f12) = true)
    (a13 : PySem.W.nsIn K mainGlobals "is_turns" = some (some (.ref f13)))
    (l13 : K.lookup f13 = some ⟨oc13, od13, .func (PySem.W.fnOf "is_turns" "is_turns" (defArgs sIsTurns) (defBody sIsTurns) (defScope sIsTurns) .none kV13 dc13 pm13 an13 cd13 ct13), sl13⟩)
    (c13 : PySem.W.codeIn K cd13 "is_turns" = true)
    (k13 : PySem.W.keepIn K (.ref f13) = true)
    (a14 : PySem.W.nsIn K mainGlobals "_law_begun" = some (some (.ref f14)))
    (l14 : K.lookup f14 = some ⟨oc14, od14, .func (PySem.W.fnOf "_law_begun" "_law_begun" (defArgs sBegun) (defBody sBegun) (defScope sBegun) .none kV14 dc14 pm14 an14 cd14 ct14), sl14⟩)
    (c14 : PySem.W.codeIn K cd14 "_law_begun" = true)
    (k14 : PySem.W.keepIn K (.ref f14) = true)
    (a15 : PySem.W.nsIn K mainGlobals "_law_mixed" = some (some (.ref f15)))
    (l15 : K.lookup f15 = some ⟨oc15, od15, .func (PySem.W.fnOf "_law_mixed" "_law_mixed" (defArgs sMixed) (defBody sMixed) (defScope sMixed) .none kV15 dc15 pm15 an15 cd15 ct15), sl15⟩)
    (c15 : PySem.W.codeIn K cd15 "_law_mixed" = true)
    (k15 : PySem.W.keepIn K (.ref f15) = true)
    (a16 : PySem.W.nsIn K mainGlobals "_law_draw" = some (some (.ref f16)))
    (l16 : K.lookup f16 = some ⟨oc16, od16, .func (PySem.W.fnOf "_law_draw" "_law_draw" (defArgs sDraw) (defBody sDraw) (defScope sDraw) .none kV16 dc16 pm16 an16 cd16 ct16), sl16⟩)
    (c16 : PySem.W.codeIn K cd16 "_law_draw" = true)
    (k16 : PySem.W.keepIn K (.ref f16) = true)
    (a17 : PySem.W.nsIn K mainGlobals "_law_pick" = some (some (.ref f17)))
    (l17 : K.lookup f17 = some ⟨oc17, od17, .func (PySem.W.fnOf "_law_pick" "_law_pick" (defArgs sPick) (defBody sPick) (defScope sPick) .none kV17 dc17 pm17 an17 cd17 ct17), sl17⟩)
    (c17 : PySem.W.codeIn K cd17 "_law_pick" = true)
    (k17 : PySem.W.keepIn K (.ref f17) = true)
    (a18 : PySem.W.nsIn K mainGlobals "_law_plain" = some (some (.ref f18)))
    (l18 : K.lookup f18 = some ⟨oc18, od18, .func (PySem.W.fnOf "_law_plain" "_law_plain" (defArgs sPlain) (defBody sPlain) (defScope sPlain) .none kV18 dc18 pm18 an18 cd18 ct18), sl18⟩)
    (c18 : PySem.W.codeIn K cd18 "_law_plain" = true)
    (k18 : PySem.W.keepIn K (.ref f18) = true)
    (a19 : PySem.W.nsIn K mainGlobals "_law_is" = some (some (.ref f19)))
    (l19 : K.lookup f19 = some ⟨oc19, od19, .func (PySem.W.fnOf "_law_is" "_law_is" (defArgs sIs) (defBody sIs) (defScope sIs) .none kV19 dc19 pm19 an19 cd19 ct19), sl19⟩)
    (c19 : PySem.W.codeIn K cd19 "_law_is" = true)
    (k19 : PySem.W.keepIn K (.ref f19) = true)
    (a20 : PySem.W.nsIn K mainGlobals "_law_some_word" = some (some (.ref f20)))
    (l20 : K.lookup f20 = some ⟨oc20, od20, .func (PySem.W.fnOf "_law_some_word" "_law_some_word" (defArgs sSomeW) (defBody sSomeW) (defScope sSomeW) .none kV20 dc20 pm20 an20 cd20 ct20), sl20⟩)
    (c20 : PySem.W.codeIn K cd20 "_law_some_word" = true)
    (k20 : PySem.W.keepIn K (.ref f20) = true)
    (a21 : PySem.W.nsIn K mainGlobals "_law_some_rows" = some (some (.ref f21)))
    (l21 : K.lookup f21 = some ⟨oc21, od21, .func (PySem.W.fnOf "_law_some_rows" "_law_some_rows" (defArgs sSomeRows) (defBody sSomeRows) (defScope sSomeRows) .none kV21 dc21 pm21 an21 cd21 ct21), sl21⟩)
    (c21 : PySem.W.codeIn K cd21 "_law_some_rows" = true)
    (k21 : PySem.W.keepIn K (.ref f21) = true)
    (a22 : PySem.W.nsIn K mainGlobals "_law_some_letters" = some (some (.ref f22)))
    (l22 : K.lookup f22 = some ⟨oc22, od22, .func (PySem.W.fnOf "_law_some_letters" "_law_some_letters" (defArgs sSomeL) (defBody sSomeL) (defScope sSomeL) .none kV22 dc22 pm22 an22 cd22 ct22), sl22⟩)
    (c22 : PySem.W.codeIn K cd22 "_law_some_letters" = true)
    (k22 : PySem.W.keepIn K (.ref f22) = true)
    (a23 : PySem.W.nsIn K mainGlobals "_law_monoid" = some (some (.ref f23)))
    (l23 : K.lookup f23 = some ⟨oc23, od23, .func (PySem.W.fnOf "_law_monoid" "_law_monoid" (defArgs sMonoid) (defBody sMonoid) (defScope sMonoid) .none kV23 dc23 pm23 an23 cd23 ct23), sl23⟩)
    (c23 : PySem.W.codeIn K cd23 "_law_monoid" = true)
    (k23 : PySem.W.keepIn K (.ref f23) = true)
    (a24 : PySem.W.nsIn K mainGlobals "_law_behind" = some (some (.ref f24)))
    (l24 : K.lookup f24 = some ⟨oc24, od24, .func (PySem.W.fnOf "_law_behind" "_law_behind" (defArgs sLawBeh) (defBody sLawBeh) (defScope sLawBeh) .none kV24 dc24 pm24 an24 cd24 ct24), sl24⟩)
    (c24 : PySem.W.codeIn K cd24 "_law_behind" = true)
    (k24 : PySem.W.keepIn K (.ref f24) = true)
    (a25 : PySem.W.nsIn K mainGlobals "_law_still" = some (some (.ref f25)))
    (l25 : K.lookup f25 = some ⟨oc25, od25, .func (PySem.W.fnOf "_law_still" "_law_still" (defArgs sStill) (defBody sStill) (defScope sStill) .none kV25 dc25 pm25 an25 cd25 ct25), sl25⟩)
    (c25 : PySem.W.codeIn K cd25 "_law_still" = true)
    (k25 : PySem.W.keepIn K (.ref f25) = true)
    (a26 : PySem.W.nsIn K mainGlobals "_law_is_turned" = some (some (.ref f26)))
    (l26 : K.lookup f26 = some ⟨oc26, od26, .func (PySem.W.fnOf "_law_is_turned" "_law_is_turned" (defArgs sIsTurned) (defBody sIsTurned) (defScope sIsTurned) .none kV26 dc26 pm26 an26 cd26 ct26), sl26⟩)
    (c26 : PySem.W.codeIn K cd26 "_law_is_turned" = true)
    (k26 : PySem.W.keepIn K (.ref f26) = true)
    (a27 : PySem.W.nsIn K mainGlobals "law" = some (some (.ref f27)))
    (l27 : K.lookup f27 = some ⟨oc27, od27, .func (PySem.W.fnOf "law" "law" (defArgs sLaw) (defBody sLaw) (defScope sLaw) .none kV27 dc27 pm27 an27 cd27 ct27), sl27⟩)
    (c27 : PySem.W.codeIn K cd27 "law" = true)
    (k27 : PySem.W.keepIn K (.ref f27) = true)
    (aC : PySem.W.nsIn K mainGlobals "Machine" = some (some (.ref C)))
    (am0 : PySem.W.findIn K (.ref C) "__init__" = some (some (.ref fm0)))
    (im0 : PySem.W.isFn K (.ref fm0) = true)
    (lm0 : K.lookup fm0 = some ⟨ocm0, odm0, .func (PySem.W.fnOf "__init__" "Machine.__init__" (defArgs sMInit) (defBody sMInit) (defScope sMInit) .none kVm0 dcm0 pmm0 anm0 cdm0 ctm0), slm0⟩)
    (cm0 : PySem.W.codeIn K cdm0 "Machine.__init__" = true)
    (km0 : PySem.W.keepIn K (.ref fm0) = true)
    (am1 : PySem.W.findIn K (.ref C) "letters" = some (some (.ref fm1)))
    (im1 : PySem.W.isFn K (.ref fm1) = true)
    (lm1 : K.lookup fm1 = some ⟨ocm1, odm1, .func (PySem.W.fnOf "letters" "Machine.letters" (defArgs sMLet) (defBody sMLet) (defScope sMLet) .none kVm1 dcm1 pmm1 anm1 cdm1 ctm1), slm1⟩)
    (cm1 : PySem.W.codeIn K cdm1 "Machine.letters" = true)
    (km1 : PySem.W.keepIn K (.ref fm1) = true)
    (am2 : PySem.W.findIn K (.ref C) "rows" = some (some (.ref fm2)))
    (im2 : PySem.W.isFn K (.ref fm2) = true)
    (lm2 : K.lookup fm2 = some ⟨ocm2, odm2, .func (PySem.W.fnOf "rows" "Machine.rows" (defArgs sMRow) (defBody sMRow) (defScope sMRow) .none kVm2 dcm2 pmm2 anm2 cdm2 ctm2), slm2⟩)
    (cm2 : PySem.W.codeIn K cdm2 "Machine.rows" = true)
    (km2 : PySem.W.keepIn K (.ref fm2) = true)
    (am3 : PySem.W.findIn K (.ref C) "behind" = some (some (.ref fm3)))
    (im3 : PySem.W.isFn K (.ref fm3) = true)
    (lm3 : K.lookup fm3 = some ⟨ocm3, odm3, .func (PySem.W.fnOf "behind" "Machine.behind" (defArgs sMBeh) (defBody sMBeh) (defScope sMBeh) .none (.ref Ds) dcm3 pmm3 anm3 cdm3 ctm3), slm3⟩)
    (cm3 : PySem.W.codeIn K cdm3 "Machine.behind" = true)
    (km3 : PySem.W.keepIn K (.ref fm3) = true)
    (am4 : PySem.W.findIn K (.ref C) "takes" = some (some (.ref fm4)))
    (im4 : PySem.W.isFn K (.ref fm4) = true)
    (lm4 : K.lookup fm4 = some ⟨ocm4, odm4, .func (PySem.W.fnOf "takes" "Machine.takes" (defArgs sMTak) (defBody sMTak) (defScope sMTak) .none kVm4 dcm4 pmm4 anm4 cdm4 ctm4), slm4⟩)
    (cm4 : PySem.W.codeIn K cdm4 "Machine.takes" = true)
    (km4 : PySem.W.keepIn K (.ref fm4) = true)
    (pgC : PySem.W.plainGet K C Str.empty = true)
    (hdC : PySem.W.hasDictIn K C = true)
    (poC : PySem.W.plainOver K C = true)
    (saC : PySem.W.findIn K (.ref C) "__setattr__" = some (some (.builtin "object.__setattr__")))
    (mkC : PySem.W.makesIn K C = true)
    (kcC : PySem.W.keepIn K (.ref C) = true)
    (nLC : PySem.W.findIn K (.ref C) "letters_told" = some none)
    (nRC : PySem.W.findIn K (.ref C) "stand_rows" = some none)
    (aCG : PySem.W.nsIn K mainGlobals "Algebra" = some (some (.ref CG)))
    (ag0 : PySem.W.findIn K (.ref CG) "__init__" = some (some (.ref fg0)))
    (ig0 : PySem.W.isFn K (.ref fg0) = true)
    (lg0 : K.lookup fg0 = some ⟨ocg0, odg0, .func (PySem.W.fnOf "__init__" "Algebra.__init__" (defArgs sAInit) (defBody sAInit) (defScope sAInit) .none kVg0 dcg0 pmg0 ang0 cdg0 ctg0), slg0⟩)
    (cg0 : PySem.W.codeIn K cdg0 "Algebra.__init__" = true)
    (kg0 : PySem.W.keepIn K (.ref fg0) = true)
    (ag1 : PySem.W.findIn K (.ref CG) "led_on" = some (some (.ref fg1)))
    (ig1 : PySem.W.isFn K (.ref fg1) = true)
    (lg1 : K.lookup fg1 = some ⟨ocg1, odg1, .func (PySem.W.fnOf "led_on" "Algebra.led_on" (defArgs sLed) (defBody sLed) (defScope sLed) .none kVg1 dcg1 pmg1 ang1 cdg1 ctg1), slg1⟩)
    (cg1 : PySem.W.codeIn K cdg1 "Algebra.led_on" = true)
    (kg1 : PySem.W.keepIn K (.ref fg1) = true)
    (ag2 : PySem.W.findIn K (.ref CG) "__len__" = some (some (.ref fg2)))
    (ig2 : PySem.W.isFn K (.ref fg2) = true)
    (lg2 : K.lookup fg2 = some ⟨ocg2, odg2, .func (PySem.W.fnOf "__len__" "Algebra.__len__" (defArgs sALen) (defBody sALen) (defScope sALen) .none kVg2 dcg2 pmg2 ang2 cdg2 ctg2), slg2⟩)
    (cg2 : PySem.W.codeIn K cdg2 "Algebra.__len__" = true)
    (kg2 : PySem.W.keepIn K (.ref fg2) = true)
    (ag3 : PySem.W.findIn K (.ref CG) "need_element" = some (some (.ref fg3)))
    (ig3 : PySem.W.isFn K (.ref fg3) = true)
    (lg3 : K.lookup fg3 = some ⟨ocg3, odg3, .func (PySem.W.fnOf "need_element" "Algebra.need_element" (defArgs sANeed) (defBody sANeed) (defScope sANeed) .none kVg3 dcg3 pmg3 ang3 cdg3 ctg3), slg3⟩)
    (cg3 : PySem.W.codeIn K cdg3 "Algebra.need_element" = true)
    (kg3 : PySem.W.keepIn K (.ref fg3) = true)
    (ag4 : PySem.W.findIn K (.ref CG) "letters" = some (some (.ref fg4)))
    (ig4 : PySem.W.isFn K (.ref fg4) = true)
    (lg4 : K.lookup fg4 = some ⟨ocg4, odg4, .func (PySem.W.fnOf "letters" "Algebra.letters" (defArgs sALet) (defBody sALet) (defScope sALet) .none kVg4 dcg4 pmg4 ang4 cdg4 ctg4), slg4⟩)
    (cg4 : PySem.W.codeIn K cdg4 "Algebra.letters" = true)
    (kg4 : PySem.W.keepIn K (.ref fg4) = true)
    (ag5 : PySem.W.findIn K (.ref CG) "element" = some (some (.ref fg5)))
    (ig5 : PySem.W.isFn K (.ref fg5) = true)
    (lg5 : K.lookup fg5 = some ⟨ocg5, odg5, .func (PySem.W.fnOf "element" "Algebra.element" (defArgs sAElem) (defBody sAElem) (defScope sAElem) .none kVg5 dcg5 pmg5 ang5 cdg5 ctg5), slg5⟩)
    (cg5 : PySem.W.codeIn K cdg5 "Algebra.element" = true)
    (kg5 : PySem.W.keepIn K (.ref fg5) = true)
    (ag6 : PySem.W.findIn K (.ref CG) "product" = some (some (.ref fg6)))
    (ig6 : PySem.W.isFn K (.ref fg6) = true)
    (lg6 : K.lookup fg6 = some ⟨ocg6, odg6, .func (PySem.W.fnOf "product" "Algebra.product" (defArgs sAProd) (defBody sAProd) (defScope sAProd) .none kVg6 dcg6 pmg6 ang6 cdg6 ctg6), slg6⟩)
    (cg6 : PySem.W.codeIn K cdg6 "Algebra.product" = true)
    (kg6 : PySem.W.keepIn K (.ref fg6) = true)
    (ag7 : PySem.W.findIn K (.ref CG) "times" = some (some (.ref fg7)))
    (ig7 : PySem.W.isFn K (.ref fg7) = true)
    (lg7 : K.lookup fg7 = some ⟨ocg7, odg7, .func (PySem.W.fnOf "times" "Algebra.times" (defArgs sATimes) (defBody sATimes) (defScope sATimes) .none kVg7 dcg7 pmg7 ang7 cdg7 ctg7), slg7⟩)
    (cg7 : PySem.W.codeIn K cdg7 "Algebra.times" = true)
    (kg7 : PySem.W.keepIn K (.ref fg7) = true)
    (pgG : PySem.W.plainGet K CG Str.empty = true)
    (hdG : PySem.W.hasDictIn K CG = true)
    (poG : PySem.W.plainOver K CG = true)
    (saG : PySem.W.findIn K (.ref CG) "__setattr__" = some (some (.builtin "object.__setattr__")))
    (mkG : PySem.W.makesIn K CG = true)
    (kcG : PySem.W.keepIn K (.ref CG) = true)
    (nG0 : PySem.W.findIn K (.ref CG) "base" = some none)
    (nG1 : PySem.W.findIn K (.ref CG) "doings" = some none)
    (nG2 : PySem.W.findIn K (.ref CG) "word_list" = some none)
    (nG3 : PySem.W.findIn K (.ref CG) "numbers_by" = some none)
    (nG4 : PySem.W.findIn K (.ref CG) "table" = some none)
    (kdDk : PySem.W.nsIn K Dk "most" = some (some (.int 60 tkDk)))
    (kdDw : PySem.W.nsIn K Dw "most" = some (some (.int 20000 tkDw)))
    (kdDs : PySem.W.nsIn K Ds "stand" = some (some (.int 0 tkDs)))
    (zs : PySem.W.nsIn K mainGlobals "SMALL" = some (some (.str "abcdefghijklmnopqrstuvwxyz" tS)))
    (zl : PySem.W.nsIn K mainGlobals "MOST_LETTERS" = some (some (.int 4 tL)))
    (zt : PySem.W.nsIn K mainGlobals "MOST_STANDS" = some (some (.int 60 tT)))
    (ze : PySem.W.nsIn K mainGlobals "MOST_ELEMENTS" = some (some (.int 200 tE)))
    (z_isinstance : PySem.W.nsIn K mainGlobals "isinstance" = some none)
    (z_str : PySem.W.nsIn K mainGlobals "str" = some none)
    (z_int : PySem.W.nsIn K mainGlobals "int" = some none)
    (z_list : PySem.W.nsIn K mainGlobals "list" = some none)
    (z_tuple : PySem.W.nsIn K mainGlobals "tuple" = some none)
    (z_dict : PySem.W.nsIn K mainGlobals "dict" = some none)
    (z_len : PySem.W.nsIn K mainGlobals "len" = some none)
    (z_all : PySem.W.nsIn K mainGlobals "all" = some none)
    (z_any : PySem.W.nsIn K mainGlobals "any" = some none)
    (z_zip : PySem.W.nsIn K mainGlobals "zip" = some none)
    (z_sorted : PySem.W.nsIn K mainGlobals "sorted" = some none)
    (z_abs : PySem.W.nsIn K mainGlobals "abs" = some none)
    (z_range : PySem.W.nsIn K mainGlobals "range" = some none)
    (z_min : PySem.W.nsIn K mainGlobals "min" = some none)
    (z_repr : PySem.W.nsIn K mainGlobals "repr" = some none)
    (z_bool : PySem.W.nsIn K mainGlobals "bool" = some none)
    (z_enumerate : PySem.W.nsIn K mainGlobals "enumerate" = some none)
    (z_max : PySem.W.nsIn K mainGlobals "max" = some none)
    (lT : K.lookup cL = some ⟨ocT, odT, .fields vsT, slT⟩)
    (vT : (vsT[11]? : Option Value) = some (.ref Pl))
    (nT : K.lookup Pl = none)
    (aS : PySem.W.nsIn K mainGlobals "SwingError" = some (some (.ref CS)))
    (bS : PySem.W.subIn K (.ref CS) (.type "BaseException") = some true)
    (tS2 : PySem.W.typeIn K (.ref CS) = some (.type "type"))
    (iS : PySem.W.isClsIn K CS = true)
    (aN : PySem.W.nsIn K mainGlobals "NoLetters" = some (some (.ref CN)))
    (xN : PySem.W.excIn K CN veB "ValueError.__new__" = true)
    (kkN : PySem.W.keepIn K (.ref CN) = true)
    (bN : PySem.W.subIn K (.ref CN) (.type "BaseException") = some true)
    (tN : PySem.W.typeIn K (.ref CN) = some (.type "type"))
    (sN : PySem.W.subIn K (.ref CN) (.ref CS) = some true)
    (aW : PySem.W.nsIn K mainGlobals "NoWord" = some (some (.ref CW)))
    (xW : PySem.W.excIn K CW veB "ValueError.__new__" = true)
    (kkW : PySem.W.keepIn K (.ref CW) = true)
    (bW : PySem.W.subIn K (.ref CW) (.type "BaseException") = some true)
    (tW : PySem.W.typeIn K (.ref CW) = some (.type "type"))
    (sW : PySem.W.subIn K (.ref CW) (.ref CS) = some true)
    : LawG l w K 16 63 "script" mg fa h := by
  have e := hfa.symm.trans (PySem.W.mg_of X G a27)
  cases e
  have B : Blt mg := ⟨PySem.W.mg_none_of X G z_isinstance, PySem.W.mg_none_of X G z_str, PySem.W.mg_none_of X G z_int, PySem.W.mg_none_of X G z_list, PySem.W.mg_none_of X G z_tuple, PySem.W.mg_none_of X G z_dict, PySem.W.mg_none_of X G z_len, PySem.W.mg_none_of X G z_all, PySem.W.mg_none_of X G z_any, PySem.W.mg_none_of X G z_zip, PySem.W.mg_none_of X G z_sorted, PySem.W.mg_none_of X G z_abs, PySem.W.mg_none_of X G z_range, PySem.W.mg_none_of X G z_min, PySem.W.mg_none_of X G z_repr, PySem.W.mg_none_of X G z_bool, PySem.W.mg_none_of X G z_enumerate, PySem.W.mg_none_of X G z_max, ⟨_, PySem.W.mg_of X G zs⟩, ⟨_, PySem.W.mg_of X G zl⟩, ⟨_, PySem.W.mg_of X G zt⟩, ⟨_, PySem.W.mg_of X G ze⟩⟩
  have mgN := PySem.W.mg_of X G aN
  have eN := exm_by bS iS tS2 sN
  have EN : ErrC K mg "NoLetters" CN CS := ⟨mgN, xN, kkN, bN, tN, eN⟩
  have mgW := PySem.W.mg_of X G aW
  have eW := exm_by bS iS tS2 sW
  have EW : ErrC K mg "NoWord" CW CS := ⟨mgW, xW, kkW, bW, tW, eW⟩
  have F0 := fun_mk (st := sIsNum) l0 c0 k0
  have D0 : Def mg K "is_number" f0 _ ["thing", "least", "most"] := ⟨PySem.W.mg_of X G a0, k0, F0.binds (ps := ["thing", "least", "most"]) fun _ _ _ _ _ _ us hl => match us, hl with | [_, _, _], _ => rfl⟩
  have F1 := fun_mk (st := sIsL) l1 c1 k1
  have D1 : Def mg K "is_letters" f1 _ ["thing"] := ⟨PySem.W.mg_of X G a1, k1, F1.binds (ps := ["thing"]) fun _ _ _ _ _ _ us hl => match us, hl with | [_], _ => rfl⟩
  have F2 := fun_mk (st := sNeedL) l2 c2 k2
  have D2 : Def mg K "need_letters" f2 _ ["thing"] := ⟨PySem.W.mg_of X G a2, k2, F2.binds (ps := ["thing"]) fun _ _ _ _ _ _ us hl => match us, hl with | [_], _ => rfl⟩
  have F3 := fun_mk (st := sIsW) l3 c3 k3
  have D3 : Def mg K "is_word_to" f3 _ ["letters", "thing", "most"] := ⟨PySem.W.mg_of X G a3, k3, F3.binds (ps := ["letters", "thing", "most"]) fun _ _ _ _ _ _ us hl => match us, hl with | [_, _, _], _ => rfl⟩
  have F5 := fun_mk (st := sIsStand) l5 c5 k5
  have D5 : Def mg K "is_stand" f5 _ ["thing", "many", "size"] := ⟨PySem.W.mg_of X G a5, k5, F5.binds (ps := ["thing", "many", "size"]) fun _ _ _ _ _ _ us hl => match us, hl with | [_, _, _], _ => rfl⟩
  have F6 := fun_mk (st := sGone) l6 c6 k6
  have D6 : Def mg K "gone_through" f6 _ ["letters", "begin", "step", "ends"] := ⟨PySem.W.mg_of X G a6, k6, F6.binds (ps := ["letters", "begin", "step", "ends"]) fun _ _ _ _ _ _ us hl => match us, hl with | [_, _, _, _], _ => rfl⟩
  have F7 := fun_mk (st := sClassed) l7 c7 k7
  have D7 : Def mg K "classed" f7 _ ["rows"] := ⟨PySem.W.mg_of X G a7, k7, F7.binds (ps := ["rows"]) fun _ _ _ _ _ _ us hl => match us, hl with | [_], _ => rfl⟩
  have F8 := fun_mk (st := sLeastRows) l8 c8 k8
  have D8 : Def mg K "least_rows" f8 _ ["rows"] := ⟨PySem.W.mg_of X G a8, k8, F8.binds (ps := ["rows"]) fun _ _ _ _ _ _ us hl => match us, hl with | [_], _ => rfl⟩
  have F10 := fun_mk (st := sLeastM) l10 c10 k10
  have D10 : Def mg K "least" f10 _ ["machine"] := ⟨PySem.W.mg_of X G a10, k10, F10.binds (ps := ["machine"]) fun _ _ _ _ _ _ us hl => match us, hl with | [_], _ => rfl⟩
  have F11 := fun_mk (st := sMadeOf) l11 c11 k11
  have D11 : Def mg K "made_of" f11 _ ["algebra", "s"] := ⟨PySem.W.mg_of X G a11, k11, F11.binds (ps := ["algebra", "s"]) fun _ _ _ _ _ _ us hl => match us, hl with | [_, _], _ => rfl⟩
  have F12 := fun_mk (st := sUnturned) l12 c12 k12
  have D12 : Def mg K "first_unturned" f12 _ ["algebra"] := ⟨PySem.W.mg_of X G a12, k12, F12.binds (ps := ["algebra"]) fun _ _ _ _ _ _ us hl => match us, hl with | [_], _ => rfl⟩
  have F13 := fun_mk (st := sIsTurns) l13 c13 k13
  have D13 : Def mg K "is_turns" f13 _ ["machine"] := ⟨PySem.W.mg_of X G a13, k13, F13.binds (ps := ["machine"]) fun _ _ _ _ _ _ us hl => match us, hl with | [_], _ => rfl⟩
  have F14 := fun_mk (st := sBegun) l14 c14 k14
  have D14 : Def mg K "_law_begun" f14 _ ["script"] := ⟨PySem.W.mg_of X G a14, k14, F14.binds (ps := ["script"]) fun _ _ _ _ _ _ us hl => match us, hl with | [_], _ => rfl⟩
  have F15 := fun_mk (st := sMixed) l15 c15 k15
  have D15 : Def mg K "_law_mixed" f15 _ ["state"] := ⟨PySem.W.mg_of X G a15, k15, F15.binds (ps := ["state"]) fun _ _ _ _ _ _ us hl => match us, hl with | [_], _ => rfl⟩
  have F16 := fun_mk (st := sDraw) l16 c16 k16
  have D16 : Def mg K "_law_draw" f16 _ ["state", "room"] := ⟨PySem.W.mg_of X G a16, k16, F16.binds (ps := ["state", "room"]) fun _ _ _ _ _ _ us hl => match us, hl with | [_, _], _ => rfl⟩
  have F17 := fun_mk (st := sPick) l17 c17 k17
  have D17 : Def mg K "_law_pick" f17 _ ["state", "some"] := ⟨PySem.W.mg_of X G a17, k17, F17.binds (ps := ["state", "some"]) fun _ _ _ _ _ _ us hl => match us, hl with | [_, _], _ => rfl⟩
  have F18 := fun_mk (st := sPlain) l18 c18 k18
  have D18 : Def mg K "_law_plain" f18 _ ["value"] := ⟨PySem.W.mg_of X G a18, k18, F18.binds (ps := ["value"]) fun _ _ _ _ _ _ us hl => match us, hl with | [_], _ => rfl⟩
  have F19 := fun_mk (st := sIs) l19 c19 k19
  have D19 : Def mg K "_law_is" f19 _ ["found", "due"] := ⟨PySem.W.mg_of X G a19, k19, F19.binds (ps := ["found", "due"]) fun _ _ _ _ _ _ us hl => match us, hl with | [_, _], _ => rfl⟩
  have F20 := fun_mk (st := sSomeW) l20 c20 k20
  have D20 : Def mg K "_law_some_word" f20 _ ["state", "letters", "most"] := ⟨PySem.W.mg_of X G a20, k20, F20.binds (ps := ["state", "letters", "most"]) fun _ _ _ _ _ _ us hl => match us, hl with | [_, _, _], _ => rfl⟩
  have F21 := fun_mk (st := sSomeRows) l21 c21 k21
  have D21 : Def mg K "_law_some_rows" f21 _ ["state", "letters"] := ⟨PySem.W.mg_of X G a21, k21, F21.binds (ps := ["state", "letters"]) fun _ _ _ _ _ _ us hl => match us, hl with | [_, _], _ => rfl⟩
  have F22 := fun_mk (st := sSomeL) l22 c22 k22
  have D22 : Def mg K "_law_some_letters" f22 _ ["state"] := ⟨PySem.W.mg_of X G a22, k22, F22.binds (ps := ["state"]) fun _ _ _ _ _ _ us hl => match us, hl with | [_], _ => rfl⟩
  have F23 := fun_mk (st := sMonoid) l23 c23 k23
  have D23 : Def mg K "_law_monoid" f23 _ ["rows", "letters"] := ⟨PySem.W.mg_of X G a23, k23, F23.binds (ps := ["rows", "letters"]) fun _ _ _ _ _ _ us hl => match us, hl with | [_, _], _ => rfl⟩
  have F24 := fun_mk (st := sLawBeh) l24 c24 k24
  have D24 : Def mg K "_law_behind" f24 _ ["one", "other"] := ⟨PySem.W.mg_of X G a24, k24, F24.binds (ps := ["one", "other"]) fun _ _ _ _ _ _ us hl => match us, hl with | [_, _], _ => rfl⟩
  have F25 := fun_mk (st := sStill) l25 c25 k25
  have D25 : Def mg K "_law_still" f25 _ ["one"] := ⟨PySem.W.mg_of X G a25, k25, F25.binds (ps := ["one"]) fun _ _ _ _ _ _ us hl => match us, hl with | [_], _ => rfl⟩
  have F26 := fun_mk (st := sIsTurned) l26 c26 k26
  have D26 : Def mg K "_law_is_turned" f26 _ ["rows", "letters"] := ⟨PySem.W.mg_of X G a26, k26, F26.binds (ps := ["rows", "letters"]) fun _ _ _ _ _ _ us hl => match us, hl with | [_, _], _ => rfl⟩
  have Fm0 := fun_mk (st := sMInit) lm0 cm0 km0
  have bm0 := Fm0.binds (ps := ["self", "letters", "rows"]) fun _ _ _ _ _ _ us hl => match us, hl with | [_, _, _], _ => rfl
  have Fm1 := fun_mk (st := sMLet) lm1 cm1 km1
  have bm1 := Fm1.binds (ps := ["self"]) fun _ _ _ _ _ _ us hl => match us, hl with | [_], _ => rfl
  have Fm2 := fun_mk (st := sMRow) lm2 cm2 km2
  have bm2 := Fm2.binds (ps := ["self"]) fun _ _ _ _ _ _ us hl => match us, hl with | [_], _ => rfl
  have Fm4 := fun_mk (st := sMTak) lm4 cm4 km4
  have bm4 := Fm4.binds (ps := ["self", "word"]) fun _ _ _ _ _ _ us hl => match us, hl with | [_, _], _ => rfl
  have TK : McC K mg C fm1 fm2 := ⟨⟨pgC, hdC, poC, saC⟩, nLC, nRC, ⟨am1, im1, km1⟩, ⟨am2, im2, km2⟩⟩
  have M : Mk K C fm0 := ⟨mkC, am0, im0, kcC⟩
  have Fg0 := fun_mk (st := sAInit) lg0 cg0 kg0
  have bg0 := Fg0.binds (ps := ["self", "machine"]) fun _ _ _ _ _ _ us hl => match us, hl with | [_, _], _ => rfl
  have Fg1 := fun_mk (st := sLed) lg1 cg1 kg1
  have bg1 := Fg1.binds (ps := ["self", "rows", "i"]) fun _ _ _ _ _ _ us hl => match us, hl with | [_, _, _], _ => rfl
  have Fg2 := fun_mk (st := sALen) lg2 cg2 kg2
  have bg2 := Fg2.binds (ps := ["self"]) fun _ _ _ _ _ _ us hl => match us, hl with | [_], _ => rfl
  have Fg3 := fun_mk (st := sANeed) lg3 cg3 kg3
  have bg3 := Fg3.binds (ps := ["self", "thing"]) fun _ _ _ _ _ _ us hl => match us, hl with | [_, _], _ => rfl
  have Fg4 := fun_mk (st := sALet) lg4 cg4 kg4
  have bg4 := Fg4.binds (ps := ["self"]) fun _ _ _ _ _ _ us hl => match us, hl with | [_], _ => rfl
  have Fg5 := fun_mk (st := sAElem) lg5 cg5 kg5
  have bg5 := Fg5.binds (ps := ["self", "word"]) fun _ _ _ _ _ _ us hl => match us, hl with | [_, _], _ => rfl
  have Fg6 := fun_mk (st := sAProd) lg6 cg6 kg6
  have bg6 := Fg6.binds (ps := ["self", "i", "j"]) fun _ _ _ _ _ _ us hl => match us, hl with | [_, _, _], _ => rfl
  have Fg7 := fun_mk (st := sATimes) lg7 cg7 kg7
  have bg7 := Fg7.binds (ps := ["self", "i", "j"]) fun _ _ _ _ _ _ us hl => match us, hl with | [_, _, _], _ => rfl
  have TG : AlC K CG := ⟨⟨pgG, hdG, poG, saG⟩, nG0, nG1, nG2, nG3, nG4⟩
  have MG : Mk K CG fg0 := ⟨mkG, ag0, ig0, kcG⟩
  have F9 : FunD K "built" "built" (defArgs sBuilt) (defBody sBuilt) (defScope sBuilt) [] [("most", .int 60)] f9 _ := ⟨⟨_, _, _, _, _, _, _, _, _, _, rfl, l9, c9, .inl ⟨rfl, rfl⟩, .inr ⟨Dk, rfl, fun q hq => by cases List.mem_singleton.mp hq; exact ⟨_, kdDk, ⟨_, rfl⟩⟩⟩⟩, k9⟩
  have E9 := FunD.binds0 (ps := ["letters", "begin", "step", "ends", "most"]) F9 4 (by simp) rfl fun _ _ _ _ _ _ us ks hl h2 => match us, ks, hl, h2 with | [_, _, _, _], [_], _, _ => ⟨_, _, _, _, _, _, rfl, rfl, rfl⟩
  obtain ⟨dsDk, vdDk, bdDk⟩ := id E9
  have F4 : FunD K "need_word" "need_word" (defArgs sNeedW) (defBody sNeedW) (defScope sNeedW) [] [("most", .int 20000)] f4 _ := ⟨⟨_, _, _, _, _, _, _, _, _, _, rfl, l4, c4, .inl ⟨rfl, rfl⟩, .inr ⟨Dw, rfl, fun q hq => by cases List.mem_singleton.mp hq; exact ⟨_, kdDw, ⟨_, rfl⟩⟩⟩⟩, k4⟩
  have E4 := FunD.binds0 (ps := ["letters", "thing", "most"]) F4 2 (by simp) rfl fun _ _ _ _ _ _ us ks hl h2 => match us, ks, hl, h2 with | [_, _], [_], _, _ => ⟨_, _, _, _, _, _, rfl, rfl, rfl⟩
  obtain ⟨dsDw, vdDw, bdDw⟩ := id E4
  have D4 : DefW mg K "need_word" f4 _ ["letters", "thing", "most"] := ⟨PySem.W.mg_of X G a4, k4, E4⟩
  have Fm3 : FunD K "behind" "Machine.behind" (defArgs sMBeh) (defBody sMBeh) (defScope sMBeh) [] [("stand", .int 0)] fm3 _ := ⟨⟨_, _, _, _, _, _, _, _, _, _, rfl, lm3, cm3, .inl ⟨rfl, rfl⟩, .inr ⟨Ds, rfl, fun q hq => by cases List.mem_singleton.mp hq; exact ⟨_, kdDs, ⟨_, rfl⟩⟩⟩⟩, km3⟩
  have Em3 := FunD.binds0 (ps := ["self", "word", "stand"]) Fm3 2 (by simp) rfl fun _ _ _ _ _ _ us ks hl h2 => match us, ks, hl, h2 with | [_, _], [_], _, _ => ⟨_, _, _, _, _, _, rfl, rfl, rfl⟩
  obtain ⟨dsDs, vdDs, bdDs⟩ := id Em3
  have KA : KBinds K (PySem.W.fnOf "is_turns" "is_turns" (defArgs sIsTurns) (defBody sIsTurns) (defScope sIsTurns) .none kV13 dc13 pm13 an13 cd13 ct13) ["machine"] ["machine"] (fun us ws => us ++ ws.reverse) (fun us ws => us ++ ws.reverse) := by
    refine ⟨fun s us ws _ hl => ?_, fun r1 r2 => r1.append (vals_rev r2)⟩
    rw [List.length_append, List.length_reverse] at hl
    have hl2 : us.length + ws.length = 1 := hl
    rcases us with _ | ⟨u1, _ | ⟨u2, us⟩⟩ <;> rcases ws with _ | ⟨w1, _ | ⟨w2, ws⟩⟩ <;> first | (exfalso; simp only [List.length_cons, List.length_nil] at hl2; omega) | exact .of_eq rfl
  have ht : PySem.W.tabIn K "least" = some (cL, Pl) := by
    unfold PySem.W.tabIn
    simp only [a10, l10, PySem.W.fnOf, lT, vT]
  obtain ⟨hc, hp⟩ := PySem.W.tab_of T X hrec ht
  refine ⟨PySem.W.fnOf "law" "law" (defArgs sLaw) (defBody sLaw) (defScope sLaw) .none kV27 dc27 pm27 an27 cd27 ct27, [(cL, Pl)], spLaw K Pl, fun p hpm => ?_, fun p hpm => ?_, fun p hpm => ?_, fun s u => .of_eq rfl, fun H a ns hn _ ht hs => ?_, fun base KX NG TB => ?_⟩
  · cases List.mem_singleton.mp hpm
    exact hp
  · cases List.mem_singleton.mp hpm
    exact nT
  · cases List.mem_singleton.mp hpm
    exact hc
  · exact ⟨a, ns, rfl, hs, hn, ht (cL, Pl) List.mem_cons_self, fun _ => rfl⟩
  · have G1 := ok_isL (P := l.prog) (w := w) (base := base) F1 B
    have G2 := ok_needL (P := l.prog) (w := w) (base := base) F2 G1 D1 EN
    have G3 := ok_isW (P := l.prog) (w := w) (base := base) F3 B 
    have G4 := ok_needW (P := l.prog) (w := w) (base := base) F4 G3 D3 EW
    have G0 := ok_isNum (P := l.prog) (w := w) (base := base) F0 B 
    have G5 := ok_isStand (P := l.prog) (w := w) (base := base) F5 B G0 D0
    have GI := ok_mInit (P := l.prog) (w := w) (base := base) Fm0 B TK G2 D2 G5 D5
    have GML := ok_mLet (P := l.prog) (w := w) (base := base) Fm1 TK
    have GMR := ok_mRow (P := l.prog) (w := w) (base := base) Fm2 B TK
    have GMB := ok_behind (P := l.prog) (w := w) (base := base) Fm3 B TK G4 D4 G0 D0
    have GMT := ok_takes (P := l.prog) (w := w) (base := base) Fm4 TK ⟨am3, im3, km3⟩ GMB vdDs bdDs
    have G6 := ok_gone (P := l.prog) (w := w) (mg := mg) (base := base) l6 c6 B
    have G7 := ok_classed (P := l.prog) (w := w) (base := base) F7 B 
    have G8 := ok_leastRows (P := l.prog) (w := w) (base := base) F8 B G7 D7
    have G9 := ok_built (P := l.prog) (w := w) (base := base) l9 c9 B G6 D6 G8 D8 M (PySem.W.mg_of X G aC) GI bm0
    have G10 := ok_leastM (fI := fm0) (P := l.prog) (w := w) (base := base) l10 c10 (TB (cL, Pl) List.mem_cons_self) TK GML bm1 GMR bm2 G9 (PySem.W.mg_of X G a9) k9 vdDk bdDk
    have GA1 := ok_led (P := l.prog) (w := w) (base := base) Fg1 B TG TK GML bm1
    have GA0 := ok_aInit (P := l.prog) (w := w) (base := base) Fg0 B TG TK GMR bm2 G10 D10 ⟨ag1, ig1, kg1⟩ GA1 bg1
    have GA2 := ok_aLen (mC := C) (P := l.prog) (w := w) (base := base) Fg2 B TG
    have GA3 := ok_aNeed (mC := C) (P := l.prog) (w := w) (base := base) Fg3 B TG G0 D0
    have GA4 := ok_aLet (P := l.prog) (w := w) (base := base) Fg4 TG TK GML bm1
    have GA5 := ok_aElem (P := l.prog) (w := w) (base := base) Fg5 B TG TK GML bm1 G4 D4
    have GA6 := ok_aProd (mC := C) (P := l.prog) (w := w) (base := base) Fg6 B TG
    have GA7 := ok_aTimes (P := l.prog) (w := w) (base := base) Fg7 TG ⟨ag3, ig3, kg3⟩ GA3 bg3 ⟨ag6, ig6, kg6⟩ GA6 bg6
    have G11 := ok_made (P := l.prog) (w := w) (base := base) F11 B TG ⟨ag4, ig4, kg4⟩ GA4 bg4 ⟨ag5, ig5, kg5⟩ GA5 bg5 ⟨ag7, ig7, kg7⟩ GA7 bg7
    have G12 := ok_unt (P := l.prog) (w := w) (base := base) F12 B TG ⟨ag2, ig2, kg2⟩ GA2 bg2 ⟨ag7, ig7, kg7⟩ GA7 bg7 G11 D11
    have G13 := ok_isT (P := l.prog) (w := w) (base := base) F13 MG (PySem.W.mg_of X G aCG) GA0 bg0 G12 D12
    have G14 := ok_begun (P := l.prog) (w := w) (base := base) F14 B 
    have G15 := ok_mixed (P := l.prog) (w := w) (base := base) F15 B 
    have G16 := ok_draw (P := l.prog) (w := w) (base := base) F16 B G15 D15
    have G17 := ok_pick (P := l.prog) (w := w) (base := base) F17 B G16 D16
    have G18 := ok_plain (P := l.prog) (w := w) (base := base) F18 B D18 3
    have G19 := ok_isV (P := l.prog) (w := w) (base := base) F19 B G18 D18
    have GPS := ok_pickS (P := l.prog) (w := w) (base := base) F17 B G16 D16
    have G22 := ok_someL (P := l.prog) (w := w) (base := base) F22 G17 D17
    have G20 := ok_someW (P := l.prog) (w := w) (base := base) F20 B G16 D16 GPS D17
    have G21 := ok_someR (P := l.prog) (w := w) (base := base) F21 B G16 D16 G17 D17
    have G23 := ok_mono (P := l.prog) (w := w) (base := base) F23 B 
    have G24 := ok_lBeh (P := l.prog) (w := w) (base := base) F24 B 
    have G25 := ok_still (P := l.prog) (w := w) (base := base) F25 G24 D24
    have G26 := ok_lTu (P := l.prog) (w := w) (base := base) F26 B G23 D23 G24 D24 G25 D25
    exact ok_law l27 c27 B ⟨⟨_, _, D14, G14⟩, ⟨_, _, D16, G16⟩, ⟨_, _, D17, GPS⟩, ⟨_, _, D22, G22⟩, ⟨_, _, D20, G20⟩, ⟨_, _, D21, G21⟩, ⟨_, _, D19, G19⟩, ⟨_, _, D10, G10⟩, ⟨_, _, D26, G26⟩, ⟨_, _, D13, KA, G13⟩⟩ M (PySem.W.mg_of X G aC) GI bm0 TK GMR bm2 ⟨am4, im4, km4⟩ GMT bm4
end SWL
set_option Elab.async false
set_option linter.all false
set_option maxRecDepth 100000
open PySem PySem.W PyProof.Rows
set_option maxHeartbeats 0 in
theorem PySem.Challenge.cw_swinglogic_k38_whole_told_by_turns_or_no_holds : PySem.Challenge.rw_swinglogic_k38_whole_told_by_turns_or_no.Holds := by
  w_on; o_law; k_head; (case hw => w_witness2)
  k_fill
  refine SWL.walk_ofG (l := PySem.Challenge.rw_swinglogic_k38_whole_told_by_turns_or_no) (n := 63) (k := 16) (x := "script") rfl (by decide) rfl ⟨rfl, by decide, by decide⟩ (fun w h Y => PySem.W.km_in_of Y) ?F
  case F =>
    intro w mg fa h loose mean mb T Y KX G hmg
    refine' SWL.all_mk KX G T hmg ?hrec ?a0 ?l0 ?c0 ?k0 ?a1 ?l1 ?c1 ?k1 ?a2 ?l2 ?c2 ?k2 ?a3 ?l3 ?c3 ?k3 ?a4 ?l4 ?c4 ?k4 ?a5 ?l5 ?c5 ?k5 ?a6 ?l6 ?c6 ?k6 ?a7 ?l7 ?c7 ?k7 ?a8 ?l8 ?c8 ?k8 ?a9 ?l9 ?c9 ?k9 ?a10 ?l10 ?c10 ?k10 ?a11 ?l11 ?c11 ?k11 ?a12 ?l12 ?c12 ?k12 ?a13 ?l13 ?c13 ?k13 ?a14 ?l14 ?c14 ?k14 ?a15 ?l15 ?c15 ?k15 ?a16 ?l16 ?c16 ?k16 ?a17 ?l17 ?c17 ?k17 ?a18 ?l18 ?c18 ?k18 ?a19 ?l19 ?c19 ?k19 ?a20 ?l20 ?c20 ?k20 ?a21 ?l21 ?c21 ?k21 ?a22 ?l22 ?c22 ?k22 ?a23 ?l23 ?c23 ?k23 ?a24 ?l24 ?c24 ?k24 ?a25 ?l25 ?c25 ?k25 ?a26 ?l26 ?c26 ?k26 ?a27 ?l27 ?c27 ?k27 ?aC ?am0 ?im0 ?lm0 ?cm0 ?km0 ?am1 ?im1 ?lm1 ?cm1 ?km1 ?am2 ?im2 ?lm2 ?cm2 ?km2 ?am3 ?im3 ?lm3 ?cm3 ?km3 ?am4 ?im4 ?lm4 ?cm4 ?km4 ?pgC ?hdC ?poC ?saC ?mkC ?kcC ?nLC ?nRC ?aCG ?ag0 ?ig0 ?lg0 ?cg0 ?kg0 ?ag1 ?ig1 ?lg1 ?cg1 ?kg1 ?ag2 ?ig2 ?lg2 ?cg2 ?kg2 ?ag3 ?ig3 ?lg3 ?cg3 ?kg3 ?ag4 ?ig4 ?lg4 ?cg4 ?kg4 ?ag5 ?ig5 ?lg5 ?cg5 ?kg5 ?ag6 ?ig6 ?lg6 ?cg6 ?kg6 ?ag7 ?ig7 ?lg7 ?cg7 ?kg7 ?pgG ?hdG ?poG ?saG ?mkG ?kcG ?nG0 ?nG1 ?nG2 ?nG3 ?nG4 ?kdDk ?kdDw ?kdDs ?zs ?zl ?zt ?ze ?z_isinstance ?z_str ?z_int ?z_list ?z_tuple ?z_dict ?z_len ?z_all ?z_any ?z_zip ?z_sorted ?z_abs ?z_range ?z_min ?z_repr ?z_bool ?z_enumerate ?z_max ?lT ?vT ?nT ?aS ?bS ?tS2 ?iS ?aN ?xN ?kkN ?bN ?tN ?sN ?aW ?xW ?kkW ?bW ?tW ?sW
    (case hrec => first | rfl | kernel_rfl)
    (case a0 => k_is)
    (case l0 => k_is)
    (case c0 => k_is)
    (case k0 => k_is)
    (case a1 => k_is)
    (case l1 => k_is)
    (case c1 => k_is)
    (case k1 => k_is)
    (case a2 => k_is)
    (case l2 => k_is)
    (case c2 => k_is)
    (case k2 => k_is)
    (case a3 => k_is)
    (case l3 => k_is)
    (case c3 => k_is)
    (case k3 => k_is)
    (case a4 => k_is)
    (case l4 => k_is)
    (case c4 => k_is)
    (case k4 => k_is)
    (case a5 => k_is)
    (case l5 => k_is)
    (case c5 => k_is)
    (case k5 => k_is)
    (case a6 => k_is)
    (case l6 => k_is)
    (case c6 => k_is)
    (case k6 => k_is)
    (case a7 => k_is)
    (case l7 => k_is)
    (case c7 => k_is)
    (case k7 => k_is)
    (case a8 => k_is)
    (case l8 => k_is)
    (case c8 => k_is)
    (case k8 => k_is)
    (case a9 => k_is)
    (case l9 => k_is)
    (case c9 => k_is)
    (case k9 => k_is)
    (case a10 => k_is)
    (case l10 => k_is)
    (case c10 => k_is)
    (case k10 => k_is)
    (case a11 => k_is)
    (case l11 => k_is)
    (case c11 => k_is)
    (case k11 => k_is)
    (case a12 => k_is)
    (case l12 => k_is)
    (case c12 => k_is)
    (case k12 => k_is)
    (case a13 => k_is)
    (case l13 => k_is)
    (case c13 => k_is)
    (case k13 => k_is)
    (case a14 => k_is)
    (case l14 => k_is)
    (case c14 => k_is)
    (case k14 => k_is)
    (case a15 => k_is)
    (case l15 => k_is)
    (case c15 => k_is)
    (case k15 => k_is)
    (case a16 => k_is)
    (case l16 => k_is)
    (case c16 => k_is)
    (case k16 => k_is)
    (case a17 => k_is)
    (case l17 => k_is)
    (case c17 => k_is)
    (case k17 => k_is)
    (case a18 => k_is)
    (case l18 => k_is)
    (case c18 => k_is)
    (case k18 => k_is)
    (case a19 => k_is)
    (case l19 => k_is)
    (case c19 => k_is)
    (case k19 => k_is)
    (case a20 => k_is)
    (case l20 => k_is)
    (case c20 => k_is)
    (case k20 => k_is)
    (case a21 => k_is)
    (case l21 => k_is)
    (case c21 => k_is)
    (case k21 => k_is)
    (case a22 => k_is)
    (case l22 => k_is)
    (case c22 => k_is)
    (case k22 => k_is)
    (case a23 => k_is)
    (case l23 => k_is)
    (case c23 => k_is)
    (case k23 => k_is)
    (case a24 => k_is)
    (case l24 => k_is)
    (case c24 => k_is)
    (case k24 => k_is)
    (case a25 => k_is)
    (case l25 => k_is)
    (case c25 => k_is)
    (case k25 => k_is)
    (case a26 => k_is)
    (case l26 => k_is)
    (case c26 => k_is)
    (case k26 => k_is)
    (case a27 => k_is)
    (case l27 => k_is)
    (case c27 => k_is)
    (case k27 => k_is)
    (case aC => k_is)
    (case am0 => k_is)
    (case im0 => k_is)
    (case lm0 => k_is)
    (case cm0 => k_is)
    (case km0 => k_is)
    (case am1 => k_is)
    (case im1 => k_is)
    (case lm1 => k_is)
    (case cm1 => k_is)
    (case km1 => k_is)
    (case am2 => k_is)
    (case im2 => k_is)
    (case lm2 => k_is)
    (case cm2 => k_is)
    (case km2 => k_is)
    (case am3 => k_is)
    (case im3 => k_is)
    (case lm3 => k_is)
    (case cm3 => k_is)
    (case km3 => k_is)
    (case am4 => k_is)
    (case im4 => k_is)
    (case lm4 => k_is)
    (case cm4 => k_is)
    (case km4 => k_is)
    (case pgC => k_is)
    (case hdC => k_is)
    (case poC => k_is)
    (case saC => k_is)
    (case mkC => k_is)
    (case kcC => k_is)
    (case nLC => k_is)
    (case nRC => k_is)
    (case aCG => k_is)
    (case ag0 => k_is)
    (case ig0 => k_is)
    (case lg0 => k_is)
    (case cg0 => k_is)
    (case kg0 => k_is)
    (case ag1 => k_is)
    (case ig1 => k_is)
    (case lg1 => k_is)
    (case cg1 => k_is)
    (case kg1 => k_is)
    (case ag2 => k_is)
    (case ig2 => k_is)
    (case lg2 => k_is)
    (case cg2 => k_is)
    (case kg2 => k_is)
    (case ag3 => k_is)
    (case ig3 => k_is)
    (case lg3 => k_is)
    (case cg3 => k_is)
    (case kg3 => k_is)
    (case ag4 => k_is)
    (case ig4 => k_is)
    (case lg4 => k_is)
    (case cg4 => k_is)
    (case kg4 => k_is)
    (case ag5 => k_is)
    (case ig5 => k_is)
    (case lg5 => k_is)
    (case cg5 => k_is)
    (case kg5 => k_is)
    (case ag6 => k_is)
    (case ig6 => k_is)
    (case lg6 => k_is)
    (case cg6 => k_is)
    (case kg6 => k_is)
    (case ag7 => k_is)
    (case ig7 => k_is)
    (case lg7 => k_is)
    (case cg7 => k_is)
    (case kg7 => k_is)
    (case pgG => k_is)
    (case hdG => k_is)
    (case poG => k_is)
    (case saG => k_is)
    (case mkG => k_is)
    (case kcG => k_is)
    (case nG0 => k_is)
    (case nG1 => k_is)
    (case nG2 => k_is)
    (case nG3 => k_is)
    (case nG4 => k_is)
    (case kdDk => k_is)
    (case kdDw => k_is)
    (case kdDs => k_is)
    (case zs => k_is)
    (case zl => k_is)
    (case zt => k_is)
    (case ze => k_is)
    (case z_isinstance => k_is)
    (case z_str => k_is)
    (case z_int => k_is)
    (case z_list => k_is)
    (case z_tuple => k_is)
    (case z_dict => k_is)
    (case z_len => k_is)
    (case z_all => k_is)
    (case z_any => k_is)
    (case z_zip => k_is)
    (case z_sorted => k_is)
    (case z_abs => k_is)
    (case z_range => k_is)
    (case z_min => k_is)
    (case z_repr => k_is)
    (case z_bool => k_is)
    (case z_enumerate => k_is)
    (case z_max => k_is)
    (case lT => k_is)
    (case vT => first | rfl | k_is)
    (case nT => first | kernel_rfl | rfl)
    (case aS => k_is)
    (case bS => k_is)
    (case tS2 => k_is)
    (case iS => k_is)
    (case aN => k_is)
    (case xN => k_exc)
    (case kkN => k_is)
    (case bN => k_is)
    (case tN => k_is)
    (case sN => k_is)
    (case aW => k_is)
    (case xW => k_exc)
    (case kkW => k_is)
    (case bW => k_is)
    (case tW => k_is)
    (case sW => k_is)
