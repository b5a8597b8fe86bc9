import PyProof.Rows.All
import Wide.All
import OpenK.AllK
import Wide.FinOn
import HandS.ForMost
import HandS.Exc
import HandS.ExcOwn
import HandS.ExcIs
import HandS.IsInst
import HandS.Lambda
import HandS.EndTab
import HandS.SortKw
import HandS.Defaults
import HandS.TupLe
import HandS.WordsExc
import HandS.Wide
import KE.SortKeyHeap
import KE.KDictKeyed
import KE.KDictSum
import KE.GoesNew
import PyProof.ListStr
import HandS.Walk
import HandS.Steps
import HandS.Style
import KE.GoesEnum
import KE.GoesMore
import PyProof.StrBlock2
import PyProof.CallFns
import HandS.StrMore
import HandS.Set
import HandS.SetFor
import KE.SortData
import HandS.SetKeys
import HandS.TupLen
import KE.KeyNested
import HandS.TupSets
import KE.KUnpackStar
import HandS.Conv
import HandS.Nested
import KE.KDictDisplayH
import HandS.NamedTup0
import HandS.DictComp
import PySem.Challenge.RW_swinglogic_k77_whole_bonds_of_the_second
import HandS.RaiseMore
set_option Elab.async false
set_option linter.all false
set_option maxRecDepth 100000
set_option maxHeartbeats 4000000
namespace SWL
open PySem PySem.Spec PyProof.Rows L2
/-! repr of data, list of a text -/
/-- what repr asks of data: the around has no guard in hand -/
def askRepr (K : PySem.W.Frag) : List V → Hp → VK → Prop := fun xs H Q =>
  ∃ (a : Addr) (d : PyData), xs = [.ref a] ∧ Dp K H (.ref a) d ∧ d.showable = true ∧ d.hasDict = false ∧ d.depth ≤ 50 ∧ d.shown.length ≤ sizeLine ∧ Q (.str d.shown) H
section
variable {X : Cx}
theorem cr_repr (gd : X.A.guards = some []) (hu : X.A.units + 64 < cLine) : CallR X (.builtin "repr") (askRepr X.K) := by
  intro pins s σ H xs us Q I rel q
  obtain ⟨a, d, rfl, hd, hs, hn, hdep, hlen, q⟩ := q
  obtain ⟨u, rfl, ru⟩ := vals1 rel
  obtain ⟨as, rd⟩ := Dp.reads I d _ _ hd ru
  cases ru
  refine repr_of_reads' rd hs (PyData.noDict_hsm hn) gd (by omega) (fun _ _ e => e) (fun h' u' tk hk => ?_) hlen
  exact ⟨.str d.shown, H, I.kept hk, ⟨u', rfl⟩, q⟩
def signsV (z : Str) : List V := z.cps.toList.map fun c => V.str ⟨#[c]⟩
theorem signs_vals (z : Str) : ∀ (l : List Nat) (vs : List Value), vs.length = l.length → (∀ (i : Nat) (v : Value), vs[i]? = some v → ∃ c t, l[i]? = some c ∧ v = .str ⟨#[c]⟩ t) → Vals (l.map fun c => V.str ⟨#[c]⟩) vs
  | [], [], _, _ => .nil
  | [], _ :: _, h, _ => by simp at h
  | _ :: _, [], h, _ => by simp at h
  | c :: l, v :: vs, h, hv => by
    obtain ⟨c', t, h1, h2⟩ := hv 0 v rfl
    have e : c = c' := Option.some.inj h1
    subst e
    exact .cons ⟨t, h2⟩ (signs_vals z l vs (by simpa using h) fun i w hw => hv (i + 1) w hw)
theorem cr_listStr (hc : X.calm = true) : CallR X (.type "list") (fun xs H Q => ∃ z, xs = [.str z] ∧ z.length ≤ sizeLine ∧ ∀ p, H p = none → Q (.ref p) (upd H p (.lst (signsV z)))) := by
  intro pins s σ H xs us Q I rel q
  obtain ⟨z, rfl, hz, q⟩ := q
  obtain ⟨u, rfl, t, rfl⟩ := vals1 rel
  refine call_list_str (I.ok.hd hc) z t (fun h' tk acc' c' hk hget hit => ?_) hz
  have hlen : acc'.toList.length = z.cps.toList.length := by
    rw [Array.length_toList, Array.length_toList]
    exact hit.1
  have hv : Vals (signsV z) acc'.toList := by
    refine signs_vals z _ _ hlen fun i v hv => ?_
    obtain ⟨c, t', h1, h2⟩ := hit.2 i v (by rw [← Array.getElem?_toList]; exact hv)
    exact ⟨c, t', by rw [Array.getElem?_toList]; exact h1, h2⟩
  refine ⟨.ref s.heap.objs.size, _, I.laid (t' := tk) hk (Nat.le_refl _) (show ObjOk X.prog X.w _ h' _ (.lst (signsV z)) from ⟨?_, acc'.toList, c', hv, ?_⟩), rfl, q _ (I.hok.fresh (Nat.le_refl _))⟩
  · unfold signsV
    rw [List.length_map, Array.length_toList]
    exact hz
  · rw [Array.toArray_toList]
    exact hget
end
end SWL
set_option Elab.async false
set_option linter.all false
set_option maxRecDepth 100000
set_option maxHeartbeats 4000000
namespace SWL
open PySem PySem.Spec PyProof.Rows L2
/-! zip of two texts -/
/-- the pairs of two texts' signs, a new tuple each -/
def PairsS (x y : Str) : It :=
  ⟨fun i _ => i < min x.cps.size y.cps.size,
    fun i H v H' => ∃ (T : Addr) (c d : Nat), v = .ref T ∧ H T = none ∧ H' = upd H T (.tup [.str ⟨#[c]⟩, .str ⟨#[d]⟩]) ∧ x.cps[i]? = some c ∧ y.cps[i]? = some d,
    fun i _ => i = min x.cps.size y.cps.size⟩
theorem turnZipS {P : Program} {w : World} {K : PySem.W.Frag} {elts : List Expr} {kk : Nat} {tp : Pos} {N : Addr} (x y : Str) (t u : Tok) :
    Turn P w K (.Tuple elts kk tp) (PairsS x y) [N + 4, N + 2, N + 3, N, N + 1] (N + 4)
      (fun i h => IsZip h (N + 4) (N + 2) (N + 3) .none ∧ IsTupOf2 h (N + 2) (.ref N) (.ref (N + 1)) ∧ (∃ a b, IsTupOf2 h (N + 3) a b) ∧ h.IsStrIter N (strIterType x) x t i ∧ h.IsStrIter (N + 1) (strIterType y) y u i) where
  mem := by simp
  obj := fun i h st b hb => by
    obtain ⟨z1, z2, ⟨_, _, z3⟩, ⟨o4, z4, _, d4⟩, ⟨o5, z5, _, d5⟩⟩ := st
    rcases (by simpa using hb : b = N + 4 ∨ b = N + 2 ∨ b = N + 3 ∨ b = N ∨ b = N + 1) with e | e | e | e | e
    · exact ⟨_, by rw [e]; exact z1, fun v q => by cases q⟩
    · exact ⟨_, by rw [e]; exact z2, fun v q => by cases q⟩
    · exact ⟨_, by rw [e]; exact z3, fun v q => by cases q⟩
    · exact ⟨o4, by rw [e]; exact z4, fun v q => by rw [d4] at q; cases q⟩
    · exact ⟨o5, by rw [e]; exact z5, fun v q => by rw [d5] at q; cases q⟩
  keep := fun i h h' st hk => by
    obtain ⟨z1, z2, ⟨a, b, z3⟩, z4, z5⟩ := st
    exact ⟨hk _ (by simp) _ z1, hk _ (by simp) _ z2, ⟨a, b, hk _ (by simp) _ z3⟩, let ⟨o, e, r⟩ := z4; ⟨o, hk _ (by simp) o e, r⟩, let ⟨o, e, r⟩ := z5; ⟨o, hk _ (by simp) o e, r⟩⟩
  item := by
    intro X hP hw hK hc i pins s σ H E I hf st hg
    subst hP hw hK
    have hh : X.A.handled = none := I.ok.hd hc
    have D1 := Draws.text (prog := X.prog) (w := X.w) (A := X.A.in1) hh N x t
    have D2 := Draws.text (prog := X.prog) (w := X.w) (A := X.A.in1) hh (N + 1) y u
    have S : ZipSep2 (N + 4) (N + 2) (N + 3) N (N + 1) [N] [N + 1] := zip_sep2 (fp1 := []) (fp2 := []) (fun _ h => nomatch h) (fun _ h => nomatch h)
    have G := GoesN.zip2 (elts := elts) (x1 := kk) (pos := tp) S D1 D2
    refine G.goes i s _ E hg st fun v h' tk hY st' hk _ => ?_
    obtain ⟨T, a, b, rfl, hT, ⟨c, t1, hc1, rfl⟩, ⟨d, t2, hd1, rfl⟩, hTup⟩ := hY
    have fr : H T = none := I.hok.fresh hT
    refine ⟨.ref T, upd H T (.tup [.str ⟨#[c]⟩, .str ⟨#[d]⟩]), I.turnedNew (t' := tk) (ch := [N + 4, N + 3, N, N + 1]) hk (fun b hb => hf b ?_) hT ?_, rfl, ⟨T, c, d, rfl, fr, rfl, hc1, hd1⟩, st', fun b hb => ?_⟩
    · rcases (by simpa using hb : b = N + 4 ∨ b = N + 3 ∨ b = N ∨ b = N + 1) with e | e | e | e <;> simp [e]
    · exact ⟨by show 2 ≤ sizeLine; decide, _, .cons ⟨_, rfl⟩ (.cons ⟨_, rfl⟩ .nil), hTup⟩
    · have hlt : b < s.heap.objs.size := by
        obtain ⟨z1, z2, ⟨_, _, z3⟩, ⟨o4, z4, _⟩, ⟨o5, z5, _⟩⟩ := st
        rcases (by simpa using hb : b = N + 4 ∨ b = N + 2 ∨ b = N + 3 ∨ b = N ∨ b = N + 1) with e | e | e | e | e
        · rw [e]; exact Heap.lt_size z1
        · rw [e]; exact Heap.lt_size z2
        · rw [e]; exact Heap.lt_size z3
        · rw [e]; exact Heap.lt_size z4
        · rw [e]; exact Heap.lt_size z5
      rw [upd_ne (Nat.ne_of_lt (Nat.lt_of_lt_of_le hlt hT))]
      exact (hf b hb).1
  done := by
    intro X hP hw hK hc i pins s σ H E I hf st hg
    subst hP hw hK
    have hh : X.A.handled = none := I.ok.hd hc
    have D1 := Draws.text (prog := X.prog) (w := X.w) (A := X.A.in1) hh N x t
    have D2 := Draws.text (prog := X.prog) (w := X.w) (A := X.A.in1) hh (N + 1) y u
    have S : ZipSep2 (N + 4) (N + 2) (N + 3) N (N + 1) [N] [N + 1] := zip_sep2 (fp1 := []) (fp2 := []) (fun _ h => nomatch h) (fun _ h => nomatch h)
    have G := GoesN.zip2 (elts := elts) (x1 := kk) (pos := tp) S D1 D2
    have hi : i = min x.cps.size y.cps.size := hg
    rw [hi] at st
    refine G.stops s _ E st fun h' tk hk _ => ?_
    refine I.turnedL (t' := tk) (ch := [N + 4, N + 3, N, N + 1]) hk fun b hb => hf b ?_
    rcases (by simpa using hb : b = N + 4 ∨ b = N + 3 ∨ b = N ∨ b = N + 1) with e | e | e | e <;> simp [e]
  self := fun A i s Q E st h => wpAny_pyIter_zip st.1 h
def iZipS (ta : TA) : TI := fun σ H R => ta σ H fun vs H1 => ∃ x y, vs = [.str x, .str y] ∧ R (PairsS x y) H1
theorem pi_zipS {X : Cx} {e e2 : Expr} {ta : TA} {p pos tpos : Pos} {elts : List Expr} {kk : Nat} (hg : Gl X "zip") (hm : X.mg "zip" = none) (ha : PA X [e, e2] ta)
    (hs : starEach [e, e2] X.env = (false, eval e X.env) :: starEach [e2] X.env := by rfl) (hpl : (backTo pos (starEach [e2] X.env)).any (·.1) = false := by rfl) :
    PI X (.Tuple elts kk tpos) (.Call (.Name "zip" p) [e, e2] [] pos) (iZipS ta) := by
  refine ⟨fun pins s σ H R I h => Call_ (ld_blt I hg hm boot_zip (callWith_type1 (thn (ha.run pos pins s σ H _ I h) fun us s1 q => ?_) hs hpl))⟩
  obtain ⟨vs, H1, I1, rel, x, y, rfl, q⟩ := q
  obtain ⟨u1, u2, rfl, ⟨t1, rfl⟩, ⟨t2, rfl⟩⟩ := vals2 rel
  refine zip_begins2 (begins_text x t1) (begins_text y t2) trivial trivial fun h' z1 z2 z3 z4 z5 hsz hk => wpAny_pyIter_zip z1 ?_
  refine ⟨_, _, _, _, H1, rfl, I1.kept (t' := s1.toks) hk, turnZipS (N := s1.heap.objs.size) x y t1 t2, ⟨z1, z2, ⟨_, _, z3⟩, ⟨_, z4, rfl, rfl⟩, ⟨_, z5, rfl, rfl⟩⟩, fun b hb => ?_, q⟩
  have hle : s1.heap.objs.size ≤ b := by
    rcases (by simpa using hb : b = s1.heap.objs.size + 4 ∨ b = s1.heap.objs.size + 2 ∨ b = s1.heap.objs.size + 3 ∨ b = s1.heap.objs.size ∨ b = s1.heap.objs.size + 1) with e | e | e | e | e <;> rw [e] <;> first | exact Nat.le_add_right _ _ | exact Nat.le_refl _
  exact I1.fpOk hle (I1.hok.fresh hle)
end SWL
set_option Elab.async false
set_option linter.all false
set_option maxRecDepth 100000
set_option maxHeartbeats 4000000
namespace SWL
open PySem PySem.Spec PyProof.Rows L2
/-! an object that nobody tracked is tracked from now on; data under growth; sorted by data -/
def Grows (H H' : Hp) : Prop := ∀ b o, H b = some o → H' b = some o
theorem Grows.refl (H : Hp) : Grows H H := fun _ _ h => h
theorem Grows.trans {H H1 H2 : Hp} (a : Grows H H1) (b : Grows H1 H2) : Grows H H2 := fun c o h => b c o (a c o h)
theorem Grows.new {H : Hp} {p : Addr} {o : HO} (h : H p = none) : Grows H (upd H p o) := fun b u e => by
  rw [upd_ne (ne_of_none e h)]
  exact e
theorem Grows.rd {H H' : Hp} (g : Grows H H') {a : Addr} {u : HO} (r : Rd H a u) : Rd H' a u := by
  rcases r with r | ⟨o, r⟩
  · exact .inl (g _ _ r)
  · exact .inr ⟨o, g _ _ r⟩
theorem Grows.l {K : PySem.W.Frag} {H H' : Hp} (g : Grows H H') {a : Addr} {xs : List V} (h : SqL K H a xs) : SqL K H' a xs := h.imp g.rd id
theorem Grows.t {K : PySem.W.Frag} {H H' : Hp} (g : Grows H H') {a : Addr} {xs : List V} (h : SqT K H a xs) : SqT K H' a xs := h.imp g.rd id
mutual
theorem Grows.dp {K : PySem.W.Frag} {H H' : Hp} (g : Grows H H') : ∀ (d : PyData) (v : V), Dp K H v d → Dp K H' v d
  | .none, _, h => by cases h; exact .non
  | .bool _, _, h => by cases h; exact .bl _
  | .int _, _, h => by cases h; exact .int _
  | .str _, _, h => by cases h; exact .str _
  | .list ds, _, h => by
    cases h with
    | lst h1 h2 => exact .lst (g.l h1) (Grows.dps g ds _ h2)
  | .tuple ds, _, h => by
    cases h with
    | tup h1 h2 => exact .tup (g.t h1) (Grows.dps g ds _ h2)
  | .dict _, _, h => by cases h
theorem Grows.dps {K : PySem.W.Frag} {H H' : Hp} (g : Grows H H') : ∀ (ds : List PyData) (vs : List V), DpAll K H vs ds → DpAll K H' vs ds
  | [], _, h => by cases h; exact .nil
  | d :: ds, _, h => by
    cases h with
    | cons h1 h2 => exact .cons (Grows.dp g d _ h1) (Grows.dps g ds _ h2)
end
section
variable {X : Cx} {pins : List (Addr × Obj)} {σ : L2.St} {H : Hp} {s : Shared}
theorem track {a : Addr} {o : HO} (I : Inv X pins σ H s) (f : FpOk X pins H a) (h0 : X.s_0.heap.objs.size ≤ a) (new : ObjOk X.prog X.w (upd H a o) s.heap a o) : Inv X pins σ (upd H a o) s := by
  obtain ⟨hn, hL, _, _, hc, hp⟩ := f
  have ne : ∀ b u, H b = some u → b ≠ a := fun b u e => ne_of_none e hn
  refine ⟨I.ok, I.os, I.bare, ⟨I.base.keep, I.base.slot, fun b u e n hx => ?_, I.base.there, fun b xs e => ?_, fun b u xs e => ?_, fun b ps e => ?_⟩, I.loc, I.cell, ?_, fun x c e => ?_, fun p hq => ?_, fun b u e => ?_, I.len⟩
  · rw [upd_ne (Nat.ne_of_lt (Nat.lt_of_lt_of_le (Heap.lt_size e) h0))]
    exact I.base.free b u e n hx
  · have q := I.base.tups b xs e
    rw [upd_ne (ne _ _ q)]
    exact q
  · have q := I.base.frzs b u xs e
    rw [upd_ne (ne _ _ q)]
    exact q
  · obtain ⟨m, q⟩ := I.base.tbls b ps e
    exact ⟨m, by rw [upd_ne (ne _ _ q)]; exact q⟩
  · rw [upd_ne hL.symm]
    exact I.free
  · rw [upd_ne (hc x c e)]
    exact I.freeC x c e
  · obtain ⟨q1, q2, q3⟩ := I.pin p hq
    exact ⟨q1, by rw [upd_ne (hp p hq)]; exact q2, q3⟩
  · by_cases hb : b = a
    · subst hb
      rw [upd_same] at e
      cases e
      exact new
    · rw [upd_ne hb] at e
      refine (I.hok b u e).stay (fun c v _ q => q) (fun c q => ?_) fun c xs q => ?_
      · rw [upd_ne (ne _ _ q)]
        exact q
      · rw [upd_ne (ne _ _ q)]
        exact q
/-- a place that is new to the state s is no frame's -/
theorem noFrame (I : Inv X pins σ H s) {b : Addr} (h : s.heap.objs.size ≤ b) : b ∉ frs X.stack := fun z => by
  rcases List.mem_cons.mp (I.stkSub b z) with e | e
  · have q := I.lt
    rw [← e] at q
    exact Nat.lt_irrefl _ (Nat.lt_of_lt_of_le q h)
  · exact I.nofs h e
theorem each_vals : ∀ {xs : List V} {us : List Value}, PySem.W.EachIs (fun u x => RelV x u) us xs → Vals xs us
  | _, _, .nil => .nil
  | _, _, .cons h t => .cons h (each_vals t)
theorem vals_each : ∀ {xs : List V} {us : List Value}, Vals xs us → PySem.W.EachIs (fun u x => RelV x u) us xs
  | _, _, .nil => .nil
  | _, _, .cons h t => .cons h (vals_each t)
end
/-- sorted(xs): the items read as data by k; what comes is THE sorted list -/
def askSorted (K : PySem.W.Frag) : List V → Hp → VK → Prop := fun xs H Q => ∃ (a : Addr) (items : List V) (k : V → PyData), xs = [.ref a] ∧ SqL K H a items ∧ (∀ x ∈ items, Dp K H x (k x)) ∧
  PySem.W.AllAlike (items.map k) ∧ PySem.W.Sortable (items.map k) ∧ (∀ x ∈ items, (k x).depth ≤ 50) ∧ ∀ p, H p = none → Q (.ref p) (upd H p (.lst (items.mergeSort (PySem.W.dataLe false k))))
theorem each_reads {X : Cx} {pins : List (Addr × Obj)} {σ : L2.St} {H : Hp} {s : Shared} (I : Inv X pins σ H s) (k : V → PyData) : ∀ {xs : List V} {us : List Value}, Vals xs us → (∀ x ∈ xs, Dp X.K H x (k x)) → PySem.W.EachIs (fun v x => ∃ as, Reads s.heap v (k x) as) us xs
  | _, _, .nil, _ => .nil
  | _, _, .cons h t, hd => .cons (Dp.reads I _ _ _ (hd _ List.mem_cons_self) h) (each_reads I k t fun x hx => hd x (List.mem_cons_of_mem _ hx))
section
variable {X : Cx}
theorem cr_sorted (hu : X.A.units + 64 < cLine) : CallR X (.builtin "sorted") (askSorted X.K) := by
  intro pins s σ H xs us Q I rel q
  obtain ⟨a, items, k, rfl, hs, hd, hal, hk, hdep, q⟩ := q
  obtain ⟨u, rfl, ru⟩ := vals1 rel
  cases ru
  obtain ⟨its, rv, hl, hz⟩ := I.list hs
  refine PySem.W.sorted_data (vs := its) (R := fun u x => RelV x u) (enc := k) (bs := items) hl.isList (vals_each rv) (each_reads I k rv hd) hal hk hz (fun x hx => ?_) fun out hlen ho => ?_
  · have := hdep x hx
    omega
  · obtain ⟨c, hc⟩ := sortedAll_at s.heap its out.toArray
    have hlen2 : (items.mergeSort (PySem.W.dataLe false k)).length ≤ sizeLine := by
      rw [List.length_mergeSort]
      exact hz
    exact ⟨.ref _, _, I.laid (t' := s.toks) (fun _ _ => sortedAll_old) (Nat.le_succ _) (show ObjOk X.prog X.w _ _ _ (.lst (items.mergeSort (PySem.W.dataLe false k))) from ⟨hlen2, out, c, each_vals ho, hc⟩), rfl, q _ (I.hok.fresh (Nat.le_succ _))⟩
end
end SWL
set_option Elab.async false
set_option linter.all false
set_option maxRecDepth 100000
set_option maxHeartbeats 4000000
namespace SWL
open PySem PySem.Spec PyProof.Rows L2 Calls
section
variable {prog : Program} {w : World} {A : Around} {s : Shared} {E : Value → Shared → Prop}
/-- sorted(xs, ..), xs a list or a tuple, is list.sort(..) of a new list -/
theorem collect_seq {T : String} (hT : T = "list" ∨ T = "tuple") {l : Addr} {vs : List Value} {o : Obj} {n : Nat} {Q : List Value → Shared → Prop} (ho : s.heap.get? l = some o) (hc : o.cls = .type T) (hd : o.data = .seq vs.toArray n)
    (hsz : vs.length ≤ sizeLine) (h : Q vs { s with heap := (s.heap.push (seqObj "list" #[] 0)).update s.heap.objs.size (Obj.mapSeq (· ++ vs.toArray)) }) : wpAny (model prog w) A (collect (.ref l)) Q E s := by
  have hnew : ∀ {h : Heap}, (h.push (seqObj "list" #[] 0)).get? h.objs.size = some (seqObj "list" #[] 0) := fun {h} => Heap.get?_push_size _ rfl
  have hold : (s.heap.push (seqObj "list" #[] 0)).get? l = some o := Heap.get?_push_of_some _ ho
  unfold collect
  refine wpAny_bind (wpAny_runValue (codeAny_builtin entry_proto_collect' (wpAny_bind (wpAny_newList (wpAny_pure ⟨Code.quiet_builtin _ (by decide +kernel), codeAny_builtin entry_list_iadd' ?_⟩)))))
  show wpAny _ _ (Builtin.List.listExtendWith (.ref s.heap.objs.size) (.ref l) (.ref s.heap.objs.size)) _ _ { s with heap := s.heap.push (seqObj "list" #[] 0) }
  unfold Builtin.List.listExtendWith
  refine wpAny_bind (wpAny_typeOf (T := T) ⟨o, hold, hc⟩ ?_)
  rw [if_pos (by rcases hT with e | e <;> subst e <;> first | rfl | decide | simp)]
  refine wpAny_bind (listItems_at hold hd (wpAny_bind (listItems_at (xs := #[]) (n := 0) hnew rfl ?_)))
  rw [if_neg (by simp)]
  refine wpAny_bind (listUpdate_at (xs := #[]) (n := 0) hnew rfl (wpAny_pure ?_) (Nat.zero_le _) (by show (#[] ++ vs.toArray).size ≤ sizeLine + 1; simp only [Array.size_append, List.size_toArray, List.length_nil]; omega))
  refine wpAny_bind (wpAny_load (get?_update_seq hnew _) ?_)
  have e : ((#[] : Array Value) ++ vs.toArray).toList = vs := by simp
  show wpAny _ _ (pure ((#[] : Array Value) ++ vs.toArray).toList) Q E _
  rw [e]
  exact wpAny_pure h
theorem sorted_of_seq {T : String} (hT : T = "list" ∨ T = "tuple") {l : Addr} {vs : List Value} {o : Obj} {n : Nat} {kw : List (Str × Value)} {Q : Value → Shared → Prop} (ho : s.heap.get? l = some o) (hc : o.cls = .type T) (hd : o.data = .seq vs.toArray n)
    (hL : vs.length ≤ sizeLine) (ha1 : argsOk "sorted" ⟨[.ref l], kw⟩) (ha2 : ∀ x, argsOk "list.sort" ⟨[.ref x], kw⟩)
    (body : ∀ E' : Value → Shared → Prop, wpAny (model prog w) A.in1.in1 (Builtin.«list.sort» ⟨[.ref (s.heap.objs.size + 1)], kw⟩) (fun f s' => f = .done (.ret .none) ∧ Q (.ref (s.heap.objs.size + 1)) s') E' { s with heap := PySem.W.copyHeap s.heap vs }) :
    wpAny (model prog w) A (call (.builtin "sorted") [.ref l] kw) Q E s := by
  refine call_function_entry_kw kind_sorted plain_sorted entry_sorted ha1 ?_
  unfold Builtin.«sorted»
  refine wpAny_bind (m := checkCount "sorted" 1 1 _) (wpAny_pure (wpAny_bind (collect_seq hT ho hc hd hL (wpAny_bind (wpAny_newList ?_ hL)))))
  have hs : ((s.heap.push (seqObj "list" #[] 0)).update s.heap.objs.size (Obj.mapSeq (· ++ vs.toArray))).objs.size = s.heap.objs.size + 1 := (Heap.size_update ..).trans (size_push' ..)
  show wpAny _ _ _ _ _ { s with heap := PySem.W.copyHeap s.heap vs }
  rw [hs]
  refine wpAny_bind (wpAny_holding (wpAny_call_entry_kw slot_list_sort ⟨_, PySem.W.copyHeap_at s.heap vs, rfl⟩ entry_list_sort ?_ (ha2 _)))
  refine wpAny_mono (body _) (fun f s' hf => ?_) fun _ _ e => e
  obtain ⟨rfl, hq⟩ := hf
  exact ⟨_, rfl, wpAny_pure ⟨_, rfl, hq⟩⟩
end
/-- a list or a tuple of xs -/
def Sq (K : PySem.W.Frag) (H : Hp) (a : Addr) (xs : List V) : Prop := SqL K H a xs ∨ SqT K H a xs
theorem isq {X : Cx} {pins : List (Addr × Obj)} {σ : L2.St} {H : Hp} {s : Shared} {a : Addr} {xs : List V} (I : Inv X pins σ H s) (h : Sq X.K H a xs) : ∃ (vs : List Value) (T : String) (o : Obj) (n : Nat), Vals xs vs ∧ (T = "list" ∨ T = "tuple") ∧ s.heap.get? a = some o ∧ o.cls = .type T ∧ o.data = .seq vs.toArray n ∧ xs.length ≤ sizeLine := by
  rcases h with h | h
  · obtain ⟨its, r, ⟨o, n, e, c, _, d⟩, z⟩ := I.list h
    exact ⟨its, "list", o, n, r, .inl rfl, e, c, d, z⟩
  · obtain ⟨its, r, ⟨o, e, c, n, d⟩, z⟩ := I.tuple h
    exact ⟨its, "tuple", o, n, r, .inr rfl, e, c, d, z⟩
theorem Grows.sq {K : PySem.W.Frag} {H H' : Hp} (g : Grows H H') {a : Addr} {xs : List V} (h : Sq K H a xs) : Sq K H' a xs := h.imp g.l g.t
end SWL
set_option Elab.async false
set_option linter.all false
set_option maxRecDepth 100000
set_option maxHeartbeats 4000000
namespace SWL
open PySem PySem.Spec PyProof.Rows L2
/-! sorted(xs, key=f), f a def of the text that raises nothing -/
def askSortedKey (K : PySem.W.Frag) (sp : Sp) (f : Addr) : List V → List V → Hp → VK → Prop := fun xs zs H Q => ∃ (a : Addr) (items : List V) (k : V → PyData), xs = [.ref a] ∧ zs = [.ref f] ∧ Sq K H a items ∧
  (∀ x ∈ items, ∀ H1, Grows H H1 → sp [x] H1 (fun v H2 => Grows H1 H2 ∧ Dp K H2 v (k x)) E0) ∧
  PySem.W.AllAlike (items.map k) ∧ PySem.W.Sortable (items.map k) ∧ (∀ x ∈ items, (k x).depth ≤ 50) ∧ ∀ H1 p, Grows H H1 → H1 p = none → Q (.ref p) (upd H1 p (.lst (items.mergeSort (PySem.W.dataLe false k))))
section
variable {X : Cx} {pins : List (Addr × Obj)} {σ : L2.St} {H : Hp} {s : Shared}
/-- one call from within two built-in calls: what stood untracked and is no frame's stands -/
theorem callIn {k : Nat} {f : Addr} {fd : FuncData} {ps : Str} {sp : Sp} {Q : VK} {x : V} {u : Value} {A : Around} {E : Value → Shared → Prop} {R : Value → Shared → Prop} (F : FnOk X.prog X.w X.K X.mg X.base CX0 k f fd [ps] sp) (hb : Binds X.K fd [ps] []) (hr : Room k A) (hA : A.frames = X.A.frames)
    (I : Inv X pins σ H s) (rx : RelV x u) (h : sp [x] H Q E0)
    (hR : ∀ (v : V) (w : Value) (H' : Hp) (s' : Shared), Inv X pins σ H' s' → RelV v w → Q v H' → (∀ b o, s.heap.get? b = some o → H b = none → b ∉ frs X.stack → s'.heap.get? b = some o ∧ H' b = none) → R w s') :
    wpAny (model X.prog X.w) A (call (.ref f) [u]) R E s := by
  have e1 := I.env0
  have e0 : Env0 X.prog X.w X.K X.mg X.base A X.stack s H := ⟨by rw [hA]; exact e1.frames, e1.mod, e1.bs, e1.bsz, e1.funs, e1.frf, e1.hok, e1.bare⟩
  refine wpAny_call (codeAny_mono (F.run A X.stack s H ⟨[u], []⟩ [u] [x] Q E0 hr e0 (hb s [u] I.kIn rfl) (.cons rx .nil) h) fun r s' hq => ?_)
  cases r with
  | error e => exact False.elim hq
  | ok fl =>
    cases fl with
    | next => exact False.elim hq
    | brk => exact False.elim hq
    | cont => exact False.elim hq
    | ret w =>
      obtain ⟨v, H', os, bare, un, hok, rv, q⟩ := hq
      obtain ⟨v2, H2, J, rv2, e1, e2⟩ := I.after (Q := fun v2 H2 => v2 = v ∧ H2 = H') ⟨v, H', os, bare, un, hok, rv, rfl, rfl⟩
      subst e1 e2
      exact hR _ _ _ _ J rv q fun b o e n nf => ⟨un.keep b o e n nf (by simp), un.free b o e n (by simp)⟩
theorem each_dp {K : PySem.W.Frag} {k : V → PyData} {H H' : Hp} (g : Grows H H') {us : List Value} {xs : List V} (h : PySem.W.EachIs (fun v x => ∃ y, RelV y v ∧ Dp K H y (k x)) us xs) : PySem.W.EachIs (fun v x => ∃ y, RelV y v ∧ Dp K H' y (k x)) us xs :=
  h.mono fun v x ⟨y, r, d⟩ => ⟨y, r, g.dp _ _ d⟩
theorem each_last {α β : Type} {R : α → β → Prop} {a : α} {b : β} (h : R a b) : ∀ {as : List α} {bs : List β}, PySem.W.EachIs R as bs → PySem.W.EachIs R (as ++ [a]) (bs ++ [b])
  | _, _, .nil => .cons h .nil
  | _, _, .cons q t => .cons q (each_last h t)
theorem crk_sortedKey {k : Nat} {f : Addr} {fd : FuncData} {ps : Str} {sp : Sp} (F : FnOk X.prog X.w X.K X.mg X.base CX0 k f fd [ps] sp) (hb : Binds X.K fd [ps] []) (hr : Room (k + 2) X.A) : CallRK X (.builtin "sorted") [Str.ofString "key"] (askSortedKey X.K sp f) := by
  intro pins s σ H xs zs us ws Q I rel relz q
  obtain ⟨a0, items, kf, rfl, rfl, hs, hsp, hal, hk, hdep, q⟩ := q
  obtain ⟨u, rfl, ru⟩ := vals1 rel
  obtain ⟨wf, rfl, rw_⟩ := vals1 relz
  cases ru
  cases rw_
  obtain ⟨vs, T, o, n, rv, hT, hget, hcl, hdt, hz⟩ := isq I hs
  have hvl : vs.length = items.length := rv.length.symm
  have hzv : vs.length ≤ sizeLine := by rw [hvl]; exact hz
  have hunits : X.A.units + 16 * (k + 2) + 200 < cLine := hr.un
  show wpAny _ _ (call (.builtin "sorted") [.ref a0] [(Str.ofString "key", .ref f)]) _ _ _
  refine sorted_of_seq hT hget hcl hdt hzv (ksk_s1 _ _) (fun _ => ksk_l1 _ _) fun E' => ?_
  rw [ksk_t1]
  generalize hA : s.heap.objs.size + 1 = a
  have I0 : Inv X pins σ H { s with heap := PySem.W.copyHeap s.heap vs } := I.kept (t' := s.toks) fun b o e => PySem.W.copyHeap_old e
  have ha : (PySem.W.copyHeap s.heap vs).get? a = some (seqObj "list" vs.toArray 0) := by rw [← hA]; exact PySem.W.copyHeap_at s.heap vs
  obtain ⟨e1, ha1⟩ : ∃ e1, ((PySem.W.copyHeap s.heap vs).update a (Obj.mapSeq fun _ => (#[] : Array Value))).get? a = some (seqObj "list" #[] e1) := ⟨_, get?_update_seq ha fun _ => #[]⟩
  have szS : s.heap.objs.size ≤ a := by rw [← hA]; exact Nat.le_succ _
  unfold ksk_tree
  refine wpAny_bind (listItems_at ha rfl ?_)
  refine wpAny_bind (listUpdate_at ha rfl ?_ (by rw [List.size_toArray]; exact hzv) (Nat.zero_le _))
  refine wpAny_bind (seqEpoch_at ha1 rfl ?_)
  refine wpAny_bind (wpAny_newTuple ?_ (by show vs.length ≤ _; exact hzv))
  refine wpAny_bind (wpAny_newList ?_ (Nat.zero_le _))
  refine wpAny_holding ?_
  generalize hh3 : (((PySem.W.copyHeap s.heap vs).update a (Obj.mapSeq fun _ => (#[] : Array Value))).push (seqObj "tuple" vs.toArray 0)) = h2
  generalize hkS : h2.objs.size = kS
  have keep : ∀ b o, s.heap.get? b = some o → (h2.push (seqObj "list" #[] 0)).get? b = some o := fun b o e => by
    have q := PySem.W.sorting_copy_old (vs := vs) e
    unfold PySem.W.sortingHeap at q
    rw [hA, hh3] at q
    exact q
  have hkS3 : (h2.push (seqObj "list" #[] 0)).get? kS = some (seqObj "list" #[] 0) := by rw [← hkS]; exact Heap.get?_push_size _ rfl
  have ha3 : (h2.push (seqObj "list" #[] 0)).get? a = some (seqObj "list" #[] e1) := by
    refine Heap.get?_push_of_some _ ?_
    rw [← hh3]
    exact Heap.get?_push_of_some _ ha1
  have hkSa : a < kS := by
    rw [← hkS, ← hh3, size_push', Heap.size_update]
    exact Nat.lt_succ_of_lt (Heap.lt_size ha)
  have szK : s.heap.objs.size ≤ kS := Nat.le_trans szS (Nat.le_of_lt hkSa)
  have I3 : Inv X pins σ H { s with heap := h2.push (seqObj "list" #[] 0) } := I.kept (t' := s.toks) keep
  have fpK : ∀ {H' : Hp}, H' kS = none → FpOk X pins H' kS := fun n => I.fpOk szK n
  have fpA : ∀ {H' : Hp}, H' a = none → FpOk X pins H' a := fun n => I.fpOk szS n
  have nfK := noFrame I szK
  have nfA := noFrame I szS
  show wpAny _ X.A.in1.in1 (ksk_rest a (.ref f) false vs.toArray e1 (.ref kS)) _ _ _
  unfold ksk_rest
  refine wpAny_bind (wpAny_rule ?_)
  first
    | rw [List.forIn_toArray]
    | (rw [← Array.forIn_toList]; simp only [List.toList_toArray])
  refine wpAny_bind (ksk_fold (fun i s' => ∃ (Hc : Hp) (kA : Array Value) (e : Nat), Inv X pins σ Hc s' ∧ Grows H Hc ∧ s'.heap.get? kS = some (seqObj "list" kA e) ∧ s'.heap.get? a = some (seqObj "list" #[] e1) ∧ Hc kS = none ∧ Hc a = none ∧
    PySem.W.EachIs (fun v x => ∃ y, RelV y v ∧ Dp X.K Hc y (kf x)) kA.toList (items.take i)) vs 0 _ ⟨H, #[], 0, I3, .refl H, hkS3, ha3, I.hok.fresh szK, I.hok.fresh szS, by rw [List.take_zero]; exact .nil⟩ ?step ?done)
  case step =>
    rintro j v s' hx ⟨Hc, kA, e, J, g, nk, na, fk, fa, hE⟩
    simp only [Nat.zero_add] at hE ⊢
    have hj : j < items.length := by
      rw [← hvl]
      exact (List.getElem?_eq_some_iff.mp hx).1
    have hxi : items[j]? = some items[j] := List.getElem?_eq_getElem hj
    obtain ⟨v', hv', rx⟩ := rv.get hxi
    rw [hx] at hv'
    cases hv'
    have hsz : kA.size ≤ vs.length := by
      have h1 := hE.length
      rw [Array.length_toList, List.length_take] at h1
      omega
    refine wpAny_bind (wpAny_attempt ?_)
    refine callIn (A := X.A.in1.in1) F hb ((hr.in1).in1) rfl J rx (hsp _ (List.getElem_mem hj) Hc g) fun y w H' s2 J2 ry hy hkeep => ?_
    obtain ⟨g2, hd⟩ := hy
    obtain ⟨nk2, fk2⟩ := hkeep kS _ nk fk nfK
    obtain ⟨na2, fa2⟩ := hkeep a _ na fa nfA
    try dsimp only
    have s1 := Heap.SameBut.update s2.heap kS (Obj.mapSeq (·.push w))
    obtain ⟨c2, hc2⟩ : ∃ c2, (s2.heap.update kS (Obj.mapSeq (·.push w))).get? kS = some (seqObj "list" (kA.push w) c2) := ⟨_, get?_update_seq nk2 (·.push w)⟩
    refine wpAny_bind (listUpdate_at nk2 rfl ?_ (Nat.le_trans hsz hzv) (Nat.le_trans (Nat.le_of_eq (Array.size_push ..)) (Nat.succ_le_succ (Nat.le_trans hsz hzv))))
    have J3 : Inv X pins σ H' { s2 with heap := s2.heap.update kS (Obj.mapSeq (·.push w)) } := by
      obtain ⟨z1, z2, _, z3, z4, z5⟩ := fpK fk2
      exact J2.turned (t' := s2.toks) (it := kS) (fun b o hb e => (s1.2 b hb).trans e) z1 z2 z3 z4 z5
    refine wpAny_pure ⟨rfl, H', kA.push w, c2, J3, g.trans g2, hc2, (s1.2 a (Nat.ne_of_lt hkSa)).trans na2, fk2, fa2, ?_⟩
    have ek : items.take (j + 1) = items.take j ++ [items[j]] := by rw [List.take_add_one, hxi]; rfl
    rw [ek, Array.toList_push]
    exact each_last ⟨y, ry, hd⟩ (each_dp g2 hE)
  case done =>
    rintro s' ⟨Hc, kA, e, J, g, nk, na, fk, fa, hE⟩
    have et : items.take (0 + vs.length) = items := List.take_of_length_le (by omega)
    rw [et] at hE
    have hsz : kA.size = vs.length := by
      have h1 := hE.length
      rw [Array.length_toList] at h1
      omega
    try dsimp only
    refine wpAny_bind (listItems_at nk rfl ?_)
    have hE2 : PySem.W.EachIs (fun v d => ∃ as, Reads s'.heap v d as) kA.toList (items.map kf) := PySem.W.each_map kf (hE.mono fun v x ⟨y, r, d⟩ => Dp.reads J _ _ _ d r)
    have hkp : PySem.W.KeepsBut a (PySem.W.hideAll s'.heap [kS]) s'.heap := fun b o _ e => PySem.W.of_hideAll _ e
    refine PySem.W.keyH_end (κ := PySem.W.dataKind s'.heap (items.map kf)) (h₁ := PySem.W.hideAll s'.heap [kS]) hkp (PySem.W.hideAll_none _ (by simp)) nk na (Nat.ne_of_gt hkSa)
      (PySem.W.SortsAt.data (s := s') hE2 hal hk (fun d hd => ?_)) hsz hzv fun h3 tk3 c k3 n3 => ⟨rfl, ?_⟩
    · obtain ⟨x, hx, rfl⟩ := List.mem_map.mp hd
      have := hdep x hx
      show X.A.units + 1 + 1 + _ < _
      omega
    · have ko : PySem.W.KeyedOut false (items.map kf) vs (PySem.W.sortVals (PySem.W.dataKind s'.heap (items.map kf)) false kA.toList vs) := ⟨s'.heap, kA.toList, hal, rfl, hE2⟩
      have ho := PySem.W.keyedOut_each kf ko (vals_each rv)
      have J3 : Inv X pins σ Hc { s' with heap := h3, toks := tk3 } := J.turnedL (t' := tk3) (ch := [a, kS]) (fun b o hb e => by
        rw [List.mem_cons, List.mem_singleton, not_or] at hb
        exact k3 b o hb.1 (PySem.W.hideAll_get _ e (by simpa using hb.2))) (fun b hb => by
        rcases (by simpa using hb : b = a ∨ b = kS) with z | z
        · rw [z]; exact fpA fa
        · rw [z]; exact fpK fk)
      have hlen2 : (items.mergeSort (PySem.W.dataLe false kf)).length ≤ sizeLine := by
        rw [List.length_mergeSort]
        exact hz
      exact ⟨.ref a, upd Hc a (.lst (items.mergeSort (PySem.W.dataLe false kf))), track J3 (fpA fa) (Nat.le_trans I.sz szS) ⟨hlen2, _, c, each_vals ho, n3⟩, rfl, q Hc a g fa⟩
end
end SWL
set_option Elab.async false
set_option linter.all false
set_option maxRecDepth 100000
set_option maxHeartbeats 4000000
namespace SWL
open PySem PySem.Spec PyProof.Rows L2
/-! sorted(dict(pairs)), the pairs' keys tuples of numbers and texts -/
def encK : Key → PyData
  | .inl i => .int i
  | .inr z => .str z
def encT (k : List Key) : PyData := .tuple (k.map encK)
def oneMore (acc : List (List Key)) (k : List Key) : List (List Key) := if acc.any (fun z => decide (z = k)) = true then acc else acc ++ [k]
def firsts (ks : List (List Key)) : List (List Key) := ks.foldl oneMore []
theorem atKey_isSome (k : List Key) : ∀ xs : List (List Key × Addr × Value), (atKey xs k).isSome = (xs.map (·.1)).any (fun z => decide (z = k))
  | [] => rfl
  | x :: xs => by
    have ih := atKey_isSome k xs
    unfold atKey at ih ⊢
    by_cases h : x.1 = k
    · simp [h]
    · simp only [List.find?_cons, h, decide_false, List.map_cons, List.any_cons, Bool.false_or]
      exact ih
theorem storedH_keys (xs : List (List Key × Addr × Value)) (k : List Key) (a : Addr) (v : Value) : (storedH xs k a v).map (·.1) = oneMore (xs.map (·.1)) k := by
  unfold storedH oneMore
  rw [atKey_isSome]
  split
  · rw [List.map_map]
    refine List.map_congr_left fun x _ => ?_
    simp only [Function.comp, putAt]
    split <;> rfl
  · rw [List.map_append]
    rfl
theorem storedAll_keys (ps : List (List Key × Addr × Value)) : (storedAllH [] ps).map (·.1) = firsts (ps.map (·.1)) := by
  have gen : ∀ (ps xs : List (List Key × Addr × Value)), (storedAllH xs ps).map (·.1) = (ps.map (·.1)).foldl oneMore (xs.map (·.1)) := by
    intro ps
    induction ps with
    | nil => intro xs; rfl
    | cons p ps ih =>
      intro xs
      show (storedAllH (storedH xs p.1 p.2.1 p.2.2) ps).map (·.1) = _
      rw [ih, storedH_keys]
      rfl
  exact gen ps []
/-- an item of the list: the pair's place, the key's place, the key, the value -/
structure PairIn where
  at_ : Addr
  key_at : Addr
  key : List Key
  val : V
def PairIn.ok (H : Hp) (p : PairIn) : Prop := H p.at_ = some (.tup [.ref p.key_at, p.val]) ∧ H p.key_at = some (.tup (p.key.map kV))
def askSortedDict (K : PySem.W.Frag) : V → Hp → VK → Prop := fun v H Q => ∃ (a : Addr) (ps : List PairIn), v = .ref a ∧ H a = some (.lst (ps.map fun p => .ref p.at_)) ∧ (∀ p ∈ ps, p.ok H) ∧
  PySem.W.AllAlike ((firsts (ps.map (·.key))).map encT) ∧ (∀ p ∈ ps, p.key ≠ []) ∧
  ∀ (out : List (Addr × List Key)), (∀ q ∈ out, H q.1 = some (.tup (q.2.map kV))) → out.map (·.2) = (firsts (ps.map (·.key))).mergeSort (PySem.W.dataLe false encT) → ∀ p, H p = none → Q (.ref p) (upd H p (.lst (out.map fun q => .ref q.1)))
theorem items_of {P : Program} {w : World} : ∀ (ks : List Key) (us : List Value), Vals (ks.map kV) us → ItemsAre (mixKind P w) ks us
  | [], _, h => by cases h; exact .nil
  | k :: ks, _, h => by
    cases h with
    | cons h1 h2 =>
      refine .cons ?_ (items_of ks _ h2)
      cases k with
      | inl i =>
        obtain ⟨t, rfl⟩ := h1
        exact keyIs_int i t
      | inr z =>
        obtain ⟨t, rfl⟩ := h1
        exact keyIs_str z t
theorem vals_of_items {P : Program} {w : World} {h : Heap} : ∀ (ks : List Key) (us : List Value), ItemsAre (mixKind P w) ks us → ReadsAll h us (ks.map encK) []
  | [], _, q => by cases q; exact .nil
  | k :: ks, _, q => by
    cases q with
    | cons h1 h2 =>
      rcases keyIs_shape h1 with ⟨i, t, rfl, rfl⟩ | ⟨z, t, rfl, rfl⟩
      · exact .cons (as := []) (bs := []) (.int i t) (vals_of_items ks _ h2)
      · exact .cons (as := []) (bs := []) (.str z t) (vals_of_items ks _ h2)
end SWL
set_option Elab.async false
set_option linter.all false
set_option maxRecDepth 100000
set_option maxHeartbeats 4000000
namespace SWL
open PySem PySem.Spec PyProof.Rows L2
section
variable {X : Cx} {pins : List (Addr × Obj)} {σ : L2.St} {H : Hp} {s : Shared}
/-- the pairs as the machine has them -/
theorem pairs_there (I : Inv X pins σ H s) : ∀ (ps : List PairIn), (∀ p ∈ ps, p.ok H) → ∃ xs : List (List Key × Addr × Value), xs.length = ps.length ∧
    ∀ (j : Nat) (p : PairIn), ps[j]? = some p → ∃ v, xs[j]? = some (p.key, p.key_at, v) ∧ PairAt s.heap p.at_ (.ref p.key_at) v ∧ IsTupleKey (mixKind X.prog X.w) s.heap p.key p.key_at
  | [], _ => ⟨[], rfl, fun j p h => by simp at h⟩
  | p :: ps, h => by
    obtain ⟨xs, hl, hx⟩ := pairs_there I ps fun q hq => h q (List.mem_cons_of_mem _ hq)
    obtain ⟨h1, h2⟩ := h p List.mem_cons_self
    obtain ⟨_, its, r1, t1⟩ := (show ObjOk X.prog X.w H s.heap p.at_ (.tup [.ref p.key_at, p.val]) from I.hok _ _ h1)
    obtain ⟨_, its2, r2, t2⟩ := (show ObjOk X.prog X.w H s.heap p.key_at (.tup (p.key.map kV)) from I.hok _ _ h2)
    obtain ⟨u1, u2, rfl, rr1, rr2⟩ := vals2 r1
    cases rr1
    refine ⟨(p.key, p.key_at, u2) :: xs, by simp [hl], fun j q hq => ?_⟩
    cases j with
    | zero =>
      have e : p = q := Option.some.inj hq
      subst e
      obtain ⟨o2, g1, g2, n2, g3⟩ := t2
      exact ⟨u2, rfl, .inl t1, ⟨o2, its2.toArray, n2, g1, g2, g3, items_of _ _ r2⟩⟩
    | succ j => exact hx j q hq
theorem tup_reads {P : Program} {w : World} {h : Heap} {k : List Key} {a : Addr} (x : IsTupleKey (mixKind P w) h k a) : Reads h (.ref a) (encT k) [] := by
  obtain ⟨o, its, n, h1, h2, h3, h4⟩ := x
  exact .tuple h1 h2 h3 (vals_of_items _ _ h4)
theorem storedH_mem {xs : List (List Key × Addr × Value)} {k : List Key} {a : Addr} {v : Value} {y : List Key × Addr × Value} (h : y ∈ storedH xs k a v) : (∃ z ∈ xs, z.1 = y.1 ∧ z.2.1 = y.2.1) ∨ (y.1 = k ∧ y.2.1 = a) := by
  unfold storedH at h
  split at h
  · obtain ⟨z, hz, rfl⟩ := List.mem_map.mp h
    refine .inl ⟨z, hz, ?_⟩
    simp only [putAt]
    split <;> exact ⟨rfl, rfl⟩
  · rcases List.mem_append.mp h with q | q
    · exact .inl ⟨y, q, rfl, rfl⟩
    · have e := List.mem_singleton.mp q
      subst e
      exact .inr ⟨rfl, rfl⟩
theorem storedAll_mem : ∀ (ps xs : List (List Key × Addr × Value)) {y : List Key × Addr × Value}, y ∈ storedAllH xs ps → (∃ z ∈ xs, z.1 = y.1 ∧ z.2.1 = y.2.1) ∨ ∃ z ∈ ps, z.1 = y.1 ∧ z.2.1 = y.2.1
  | [], xs, y, h => .inl ⟨y, h, rfl, rfl⟩
  | p :: ps, xs, y, h => by
    rcases storedAll_mem ps (storedH xs p.1 p.2.1 p.2.2) h with ⟨z, hz, e1, e2⟩ | ⟨z, hz, e1, e2⟩
    · rcases storedH_mem hz with ⟨w, hw, f1, f2⟩ | ⟨f1, f2⟩
      · exact .inl ⟨w, hw, f1.trans e1, f2.trans e2⟩
      · exact .inr ⟨p, List.mem_cons_self, f1.symm.trans e1, f2.symm.trans e2⟩
    · exact .inr ⟨z, List.mem_cons_of_mem _ hz, e1, e2⟩
theorem each_toList {xs : List (List Key × Addr × Value)} {acc : Array Value} (hs : acc.size = xs.length) (h : ∀ (i : Nat) (v : Value), acc[i]? = some v → ∃ y, xs[i]? = some y ∧ v = Value.ref y.2.1) : PySem.W.EachIs (fun v (y : List Key × Addr × Value) => v = Value.ref y.2.1) acc.toList xs := by
  refine PySem.W.EachIs.of_zip (by rw [Array.length_toList]; exact hs) fun p hp => ?_
  obtain ⟨i, hi⟩ := List.getElem?_of_mem hp
  rw [List.getElem?_zip_eq_some] at hi
  obtain ⟨y, hy, e⟩ := h i p.1 (by rw [← Array.getElem?_toList]; exact hi.1)
  rw [hi.2] at hy
  cases hy
  exact e
theorem each_refs : ∀ {us : List Value} {ys : List (List Key × Addr × Value)}, PySem.W.EachIs (fun v (y : List Key × Addr × Value) => v = Value.ref y.2.1) us ys → Vals (ys.map fun y => V.ref y.2.1) us
  | _, _, .nil => .nil
  | _, _, .cons h t => by
    subst h
    exact .cons rfl (each_refs t)
/-- sorted(d), d a dict (untracked) whose keys are tuples of the written kinds -/
theorem sorted_dictH {d : Addr} {xs : List (List Key × Addr × Value)} {Q : VK} (hc : X.calm = true) (hu : X.A.units + 64 < cLine) (I : Inv X pins σ H s) (lo : (d == sysModules) = false) (hd : s.heap.DictOfH (tupleKind (mixKind X.prog X.w)) d xs) (hz : xs.length ≤ sizeLine)
    (hal : PySem.W.AllAlike ((xs.map (·.1)).map encT)) (hne : ∀ x ∈ xs, x.1 ≠ [])
    (q : ∀ ys : List (List Key × Addr × Value), ys = xs.mergeSort (PySem.W.dataLe false fun y => encT y.1) → ∀ p, H p = none → Q (.ref p) (upd H p (.lst (ys.map fun y => V.ref y.2.1)))) :
    wpAny (model X.prog X.w) X.A (call (.builtin "sorted") [.ref d]) (EP X pins σ Q) X.xe s := by
  have hh := I.ok.hd hc
  obtain ⟨es, ep, hr, hsz, hent⟩ := hd.raw
  have e0 : es.size ≤ sizeLine := by rw [hsz]; exact hz
  refine Calls.call_function_entry kind_sorted plain_sorted entry_sorted (args_sorted1 _) ?_
  unfold Builtin.«sorted»
  refine wpAny_bind (m := checkCount "sorted" 1 1 _) (wpAny_pure ?_)
  refine wpAny_bind (PySem.W.kdu_collect (A := X.A.in1) (KdlSrc.rawDict lo) hh hr e0 fun h' tk acc hk hacc => ?_)
  have hal2 : acc.size = xs.length := by rw [hacc.1, hsz]
  have hE : PySem.W.EachIs (fun v (y : List Key × Addr × Value) => v = Value.ref y.2.1) acc.toList xs := each_toList hal2 fun i v hv => by
    obtain ⟨hi, e⟩ := hacc.2 i v hv
    obtain ⟨y, hy, e2, _, _⟩ := hent i hi
    exact ⟨y, hy, e.trans e2⟩
  have I1 : Inv X pins σ H { s with heap := h', toks := tk } := I.kept hk
  have hzl : acc.toList.length ≤ sizeLine := by rw [Array.length_toList, hal2]; exact hz
  refine wpAny_bind (wpAny_newList ?_ hzl)
  have hoL : (h'.push (seqObj "list" acc.toList.toArray 0)).get? h'.objs.size = some (seqObj "list" acc.toList.toArray 0) := Heap.get?_push_size _ rfl
  have kp : ∀ b o, s.heap.get? b = some o → (h'.push (seqObj "list" acc.toList.toArray 0)).get? b = some o := fun b o e => Heap.get?_push_of_some _ (hk b o e)
  show wpAny _ _ _ _ _ { s with heap := h'.push (seqObj "list" acc.toList.toArray 0), toks := tk }
  obtain ⟨_, _, _, _, _, _, _, his, _⟩ := id hd
  have hR : PySem.W.EachIs (fun v (y : List Key × Addr × Value) => ∃ as, Reads (h'.push (seqObj "list" acc.toList.toArray 0)) v (encT y.1) as ∧ h'.objs.size ∉ as) acc.toList xs := by
    refine (PySem.W.each_mem hE).mono fun v y ⟨e, hy⟩ => ⟨[], ?_, by simp⟩
    subst e
    exact PyProof.Rows.Reads.keeps kp (tup_reads (his y hy))
  refine wpAny_bind (wpAny_holding ?_)
  refine PySem.W.list_sort_data (s := { s with heap := h'.push (seqObj "list" acc.toList.toArray 0), toks := tk }) (enc := fun y : List Key × Addr × Value => encT y.1) (bs := xs) hoL hE hR (by rw [List.map_map] at hal; exact hal) (.inl fun dd hdd => ?_) hz (fun y _ => ?_) fun out hlen ho => ?_
  · obtain ⟨y, hy, rfl⟩ := List.mem_map.mp hdd
    cases e : y.1 with
    | nil => exact absurd e (hne y hy)
    | cons k r => exact ⟨encK k, r.map encK, rfl⟩
  · have hdep : (encT y.1).depth = 1 := by
      have z : ∀ l : List Key, PyData.depthAll (l.map encK) = 0 := by
        intro l
        induction l with
        | nil => rfl
        | cons k r ih =>
          show PyData.depthAll (encK k :: r.map encK) = 0
          rw [PyData.depthAll, ih]
          cases k <;> rfl
      show PyData.depth (.tuple (y.1.map encK)) = 1
      rw [PyData.depth, z]
    rw [hdep]
    show X.A.units + 1 + 1 + 1 < cLine
    omega
  · obtain ⟨c, hc2⟩ := sortedHeap_at (vs := acc.toList) (out := out.toArray) hoL
    have hv := each_refs ho
    have hlen2 : ((xs.mergeSort (PySem.W.dataLe false fun y => encT y.1)).map fun y => V.ref y.2.1).length ≤ sizeLine := by
      rw [List.length_map, List.length_mergeSort]
      exact hz
    refine wpAny_pure ⟨_, rfl, .ref h'.objs.size, upd H h'.objs.size _, I1.laid (t' := tk) (fun b u e => ?_) (Nat.le_refl _) (show ObjOk X.prog X.w _ _ _ (.lst _) from ⟨hlen2, out, c, hv, hc2⟩), rfl, q _ rfl _ (I1.hok.fresh (Nat.le_refl _))⟩
    have hb : b < h'.objs.size := Heap.lt_size e
    exact (sortedHeap_old (Nat.ne_of_lt hb) (by rw [size_push']; exact Nat.lt_succ_of_lt hb)).trans (Heap.get?_push_of_some _ e)
end
end SWL
set_option Elab.async false
set_option linter.all false
set_option maxRecDepth 100000
set_option maxHeartbeats 4000000
namespace SWL
open PySem PySem.Spec PyProof.Rows L2
section
variable {X : Cx}
theorem vals_refs : ∀ {ps : List PairIn} {us : List Value}, Vals (ps.map fun p => V.ref p.at_) us → us = ps.map fun p => Value.ref p.at_
  | [], _, h => by cases h; rfl
  | p :: ps, _, h => by
    cases h with
    | cons h1 h2 =>
      rw [vals_refs h2]
      cases h1
      rfl
theorem pe_sortedDict {e : Expr} {te : TE} {p1 p2 p3 p4 : Pos} (hc : X.calm = true) (hu : X.A.units + 64 < cLine) (g1 : Gl X "sorted") (m1 : X.mg "sorted" = none) (g2 : Gl X "dict") (m2 : X.mg "dict" = none) (he : PE X e te)
    (hs : starEach [e] X.env = (false, eval e X.env) :: starEach [] X.env := by rfl) :
    PE X (.Call (.Name "sorted" p1) [.Call (.Name "dict" p2) [e] [] p3] [] p4) (fun σ H Q => te σ H fun v H1 => askSortedDict X.K v H1 Q) := by
  refine ⟨fun pins s σ H Q I h => wpAny_Call_Name_kw (ld_blt I g1 m1 (by decide +kernel : bootBuiltins "sorted" = some (.builtin "sorted")) (callWith_builtin1 ?_ rfl rfl))⟩
  show wpAny _ _ (spliced ((false, eval (.Call (.Name "dict" p2) [e] [] p3) X.env) :: backTo p4 (starEach [] X.env))) _ _ s
  let Q' : List V → Hp → Prop := fun vs H1 => match vs with | [v] => askSortedDict X.K v H1 Q | _ => False
  refine Calls.spliced_cons (wpAny_Call_Name_kw (ld_blt I g2 m2 (by decide +kernel : bootBuiltins "dict" = some (.type "dict")) (callWith_type1 (thn ((pa_cons he pa_nil hs).run p3 pins s σ H Q' I h) fun us s1 q => ?_) hs rfl)))
  obtain ⟨vs, H1, I1, rel, q⟩ := q
  obtain ⟨v0, rfl⟩ : ∃ v0, vs = [v0] := by
    cases vs with
    | nil => exact q.elim
    | cons v r => cases r with
      | nil => exact ⟨v, rfl⟩
      | cons _ _ => exact q.elim
  obtain ⟨a, ps, rfl, hl, hok, hal, hne, q⟩ := (show askSortedDict X.K v0 H1 Q from q)
  obtain ⟨u, rfl, ru⟩ := vals1 rel
  cases ru
  obtain ⟨hz0, its, n0, rv, ho⟩ := (show ObjOk X.prog X.w H1 s1.heap a (.lst _) from I1.hok _ _ hl)
  have hz : ps.length ≤ sizeLine := by rw [List.length_map] at hz0; exact hz0
  have eits := vals_refs rv
  obtain ⟨xs, hlen, hx⟩ := pairs_there I1 ps hok
  have hh := I1.ok.hd hc
  have hkeys : xs.map (·.1) = ps.map (·.key) := by
    refine List.ext_getElem? fun j => ?_
    rw [List.getElem?_map, List.getElem?_map]
    cases e : ps[j]? with
    | none =>
      have z : xs[j]? = none := List.getElem?_eq_none_iff.mpr (by rw [hlen]; exact List.getElem?_eq_none_iff.mp e)
      rw [z]
      rfl
    | some p =>
      obtain ⟨v, e2, _⟩ := hx j p e
      rw [e2]
      rfl
  let Ts : Nat → Addr := fun j => ((ps[j]?).map (·.at_)).getD 0
  let psv : List (Value × Value) := xs.map fun x => (Value.ref x.2.1, x.2.2)
  have hpsv : psv.length = ps.length := by rw [List.length_map, hlen]
  have at_j : ∀ (j : Nat) (k v : Value), psv[j]? = some (k, v) → ∃ p, ps[j]? = some p ∧ k = .ref p.key_at ∧ xs[j]? = some (p.key, p.key_at, v) ∧ PairAt s1.heap p.at_ k v := by
    intro j k v e
    rw [List.getElem?_map] at e
    cases e2 : xs[j]? with
    | none => rw [e2] at e; simp at e
    | some x =>
      have hj : j < ps.length := by
        rw [← hlen]
        exact (List.getElem?_eq_some_iff.mp e2).1
      obtain ⟨v', e3, pa, _⟩ := hx j _ (List.getElem?_eq_getElem hj)
      rw [e2] at e e3
      cases e3
      cases e
      exact ⟨_, List.getElem?_eq_getElem hj, rfl, rfl, pa⟩
  have hkt : ∀ x ∈ xs, IsTupleKey (mixKind X.prog X.w) s1.heap x.1 x.2.1 := fun x hxm => by
    obtain ⟨j, hj⟩ := List.getElem?_of_mem hxm
    have hj2 : j < ps.length := by
      rw [← hlen]
      exact (List.getElem?_eq_some_iff.mp hj).1
    obtain ⟨v', e3, _, t⟩ := hx j _ (List.getElem?_eq_getElem hj2)
    rw [hj] at e3
    cases e3
    exact t
  have hH : ∀ x ∈ xs, H1 x.2.1 = some (.tup (x.1.map kV)) := fun x hxm => by
    obtain ⟨j, hj⟩ := List.getElem?_of_mem hxm
    have hj2 : j < ps.length := by
      rw [← hlen]
      exact (List.getElem?_eq_some_iff.mp hj).1
    obtain ⟨v', e3, _, t⟩ := hx j _ (List.getElem?_eq_getElem hj2)
    rw [hj] at e3
    cases e3
    exact (hok _ (List.getElem_mem hj2)).2
  have hls : psv.length ≤ sizeLine := by rw [hpsv]; exact hz
  refine PySem.call_dict_pairsH (A := X.A) (s := s1) (knd := tupleKind (mixKind X.prog X.w)) (ps := xs) (PairArg.list a its.toArray Ts psv) hh ?room ⟨⟨_, _, ho, rfl, rfl, rfl⟩, ?items⟩ ?hc ?hst hls fun h' tk hD hk => ?fin
  case items =>
    refine ⟨?_, fun j k v e => ?_⟩
    · rw [List.size_toArray, eits, List.length_map, hpsv]
    · obtain ⟨p, e1, _, _, pa⟩ := at_j j k v e
      have eT : Ts j = p.at_ := by show ((ps[j]?).map (·.at_)).getD 0 = _; rw [e1]; rfl
      rw [eT]
      refine ⟨?_, pa⟩
      rw [List.getElem?_toArray, eits, List.getElem?_map, e1]
      rfl
  case hc =>
    refine ⟨by rw [hpsv, hlen], fun i key v e => ?_⟩
    obtain ⟨p, e1, ek, e3, pa⟩ := at_j i key v e
    exact ⟨_, _, e3, ek⟩
  case hst =>
    intro h2 hk2 x hxm
    obtain ⟨o, its2, n2, z1, z2, z3, z4⟩ := hkt x hxm
    exact ⟨o, its2, n2, hk2 _ _ (Nat.ne_of_lt (Heap.lt_size z1)) (by simp) z1, z2, z3, z4⟩
  case fin =>
    refine Calls.spliced_nil ?_
    have I2 : Inv X pins σ H1 { s1 with heap := h', toks := tk } := I1.kept fun b o e => hk b o (by simp) e
    have ek := storedAll_keys xs
    rw [hkeys] at ek
    have mem1 : ∀ y ∈ storedAllH [] xs, H1 y.2.1 = some (.tup (y.1.map kV)) := fun y hy => by
      rcases storedAll_mem xs [] hy with ⟨z, hz2, _, _⟩ | ⟨z, hz2, f1, f2⟩
      · simp at hz2
      · rw [← f1, ← f2]
        exact hH z hz2
    have hlen2 : (storedAllH [] xs).length ≤ sizeLine := by
      have := storedAllH_length xs []
      simp at this
      omega
    refine sorted_dictH (X := X) (pins := pins) (σ := σ) (H := H1) (xs := storedAllH [] xs) hc hu I2 (beq_eq_false_iff_ne.mpr (Nat.ne_of_gt I1.big)) hD hlen2 ?_ ?_ fun ys hys p hp => ?_
    · rw [ek]
      exact hal
    · intro y hy
      rcases storedAll_mem xs [] hy with ⟨z, hz2, _, _⟩ | ⟨z, hz2, f1, f2⟩
      · simp at hz2
      · rw [← f1]
        have zk : z.1 ∈ xs.map (·.1) := List.mem_map.mpr ⟨z, hz2, rfl⟩
        rw [hkeys] at zk
        obtain ⟨p, hp, e⟩ := List.mem_map.mp zk
        rw [← e]
        exact hne p hp
    · have e1 : (ys.map fun y => V.ref y.2.1) = ((ys.map fun y => (y.2.1, y.1)).map fun q => V.ref q.1) := by rw [List.map_map]; rfl
      rw [e1]
      refine q (ys.map fun y => (y.2.1, y.1)) (fun z hz2 => ?_) ?_ p hp
      · obtain ⟨y, hy, rfl⟩ := List.mem_map.mp hz2
        rw [hys] at hy
        exact mem1 y ((List.mergeSort_perm _ _).mem_iff.mp hy)
      · rw [List.map_map, ← ek, hys]
        exact PySem.W.sort_maps (fun y : List Key × Addr × Value => y.1) fun _ _ _ _ => rfl
  case room =>
    show X.A.units + 1 + 1 < cLine
    omega
end
end SWL
set_option Elab.async false
set_option linter.all false
set_option maxRecDepth 100000
set_option maxHeartbeats 4000000
namespace SWL
open PySem PySem.Spec PyProof.Rows L2
/-! try: body / except C as n: suite, the exception itself being kept beyond the suite -/
def Kept (cls : Value) (d : Option Addr) (a : Addr) : Heap → Prop := fun h => ∃ oe, h.get? a = some oe ∧ Zc cls d oe ∧ ∃ vs, oe.data = .fields vs
def wKeep (K : PySem.W.Frag) (c : Value) (n i : Nat) (ts : Addr → Value → Option Addr → TS) (D : Ends) : WX := fun cls d σ H =>
  PySem.W.exmOne K cls c = some true ∧ (σ.length = n → ∀ a, H a = none → ts a cls d { nx := fun σ' H' => H' a = none → D.nx (σ'.set i none) (upd H' a (.ext (Kept cls d a))), rt := fun _ _ => False, bk := fun _ _ => False, ct := fun _ _ => False } (σ.set i (some (.ref a))) H)
section
variable {X : Cx} {pins : List (Addr × Obj)} {σ : L2.St} {H : Hp} {s : Shared}
theorem seen {a : Addr} {o : HO} (I : Inv X pins σ H s) (hn : H a = none) (hL : a ≠ X.env.locals) (h0 : a ∉ X.ex → X.s_0.heap.get? a = none) (hc : ∀ x c, X.env.cells.lookup x = some c → c ≠ a) (hp : ∀ p ∈ X.pn ++ pins, p.1 ≠ a)
    (new : ObjOk X.prog X.w (upd H a o) s.heap a o) : Inv X pins σ (upd H a o) s := by
  have ne : ∀ {b u}, H b = some u → b ≠ a := fun e => ne_of_none e hn
  have up : ∀ {b u}, H b = some u → upd H a o b = some u := fun e => by rw [upd_ne (ne e)]; exact e
  refine ⟨I.ok, I.os, I.bare, ⟨I.base.keep, I.base.slot, fun b u e n hx => ?_, I.base.there, fun b xs e => up (I.base.tups b xs e), fun b u xs e => up (I.base.frzs b u xs e), fun b ps e => ?_⟩, I.loc, I.cell, ?_, fun x c e => ?_, fun p hq => ?_, fun b u e => ?_, I.len⟩
  · have nb : b ≠ a := fun z => by rw [z, h0 (z ▸ hx)] at e; cases e
    rw [upd_ne nb]
    exact I.base.free b u e n hx
  · obtain ⟨m, q⟩ := I.base.tbls b ps e
    exact ⟨m, up q⟩
  · rw [upd_ne hL.symm]
    exact I.free
  · rw [upd_ne (hc x c e)]
    exact I.freeC x c e
  · obtain ⟨q1, q2, q3⟩ := I.pin p hq
    exact ⟨q1, by rw [upd_ne (hp p hq)]; exact q2, q3⟩
  · by_cases hb : b = a
    · subst hb
      rw [upd_same] at e
      cases e
      exact new
    · rw [upd_ne hb] at e
      exact (I.hok b u e).stay (fun c v _ q => q) (fun c q => up q) fun c xs q => up q
/-- the pin of the suite, as one of ours -/
theorem mine {a : Addr} {oe : Obj} (I : Inv (X.suite a ((a, oe) :: (X.pn ++ pins))) [] σ H s) (ok : X.Ok) : Inv X ((a, oe) :: pins) σ H s := by
  refine ⟨ok, I.os, I.bare, I.base, I.loc, I.cell, I.free, I.freeC, fun p hp => I.pin p ?_, I.hok, I.len⟩
  show p ∈ ((a, oe) :: (X.pn ++ pins)) ++ []
  rcases List.mem_append.mp hp with h | h
  · simp [h]
  · rcases List.mem_cons.mp h with h | h <;> simp [h]
theorem unpin {q : Addr × Obj} (I : Inv X (q :: pins) σ H s) : Inv X pins σ H s :=
  ⟨I.ok, I.os, I.bare, I.base, I.loc, I.cell, I.free, I.freeC, fun p hp => I.pin p (by rcases List.mem_append.mp hp with h | h <;> simp [h]), I.hok, I.len⟩
end
section
variable {X : Cx} {x n : Str} {c : Value} {i : Nat} {body suite : List Stmt} {b₀ : Stmt} {np pos pos' : Pos} {tb : WX → TS} {ts : Addr → Value → Option Addr → TS}
theorem ps_try_keep (hs : X.stack = X.env :: X.outer) (hf : X.env.frame = some X.env.locals) (hN : X.N.Nodup) (hi : X.N[i]? = some n) (hln : X.env.kindOf n = some .local) (hc : Names X x c)
    (hb : ∀ (W : WX) (pn : List (Addr × Obj)) (xe : Value → Shared → Prop), Takes (X.tr pn xe) W → PassesOwn (model X.prog X.w) X.A X.env xe → PSs (X.tr pn xe) body (tb W))
    (hsu : ∀ (a : Addr) (oe : Obj) (cls : Value) (d : Option Addr) (pn : List (Addr × Obj)), Zc cls d oe → (∃ vs, oe.data = .fields vs) → PSs (X.suite a ((a, oe) :: pn)) (b₀ :: suite) (ts a cls d)) :
    PS X (.Try body [.ExceptHandler (some (.Name x np)) (some n) (b₀ :: suite) pos'] [] [] pos) (fun D σ H => tb (wKeep X.K c X.N.length i ts D) D σ H) := by
  constructor
  intro pins s σ H D I h
  have ok := I.ok
  have hfr : X.A.frames = some (X.env :: X.outer) := ok.frames.trans (congrArg some hs)
  have back : ∀ {f : Flow} {s1 : Shared} {pn xe}, SP (X.tr (X.pn ++ pins) xe) pn D f s1 → SP X pins D f s1 := by
    intro f s1 pn xe q
    cases f with
    | ret u => obtain ⟨v, σ', H', J, z⟩ := q; exact ⟨v, σ', H', J.ofTry ok, z⟩
    | next => obtain ⟨σ', H', J, z⟩ := q; exact ⟨σ', H', J.ofTry ok, z⟩
    | brk => obtain ⟨σ', H', J, z⟩ := q; exact ⟨σ', H', J.ofTry ok, z⟩
    | cont => obtain ⟨σ', H', J, z⟩ := q; exact ⟨σ', H', J.ofTry ok, z⟩
  let hand : Value → Shared → Prop := fun e s₁ => wpAny (model X.prog X.w) X.A (noteFrame e X.env) (fun _ s₂ => wpAny (model X.prog X.w) X.A (setFlight e none) (fun _ s₃ =>
    wpAny (model X.prog X.w) X.A (handleBy e X.env [.ExceptHandler (some (.Name x np)) (some n) (b₀ :: suite) pos']) (SP X pins D) X.xe s₃) X.xe s₂) X.xe s₁
  have take : Takes (X.tr (X.pn ++ pins) hand) (wKeep X.K c X.N.length i ts D) := by
    intro u s' xx
    obtain ⟨a, B, sI, pins', σ', H', cls, d, rfl, J0, nb, up, sky, na, os, ag, hex, hts⟩ := xx
    have J := J0.ofTry ok
    have nb' : ∀ b o, sI.heap.get? b = some o → b ∉ frs (X.env :: X.outer) → B.get? b = some o := fun b o e z => nb b o e (by rw [show (X.tr (X.pn ++ pins) hand).stack = X.env :: X.outer from hs]; exact z)
    have sky' : Sky B (X.env :: X.outer) a (Zc cls d) X.env.locals s'.heap := by
      rw [← hs]
      exact sky
    show wpAny (model X.prog X.w) X.A (noteFrame (.ref a) X.env) _ _ _
    refine Sky.land Zc.steady hfr hf sky' fun h3 fl3 up3 => ?_
    obtain ⟨o3, v3, g3, z3, d3⟩ := fl3.there
    -- the exception's place is no frame's, and new
    have nfr : a ∉ frs (X.env :: X.outer) := fun hm => by
      obtain ⟨_, o', e', q⟩ := fl3.2.2.1.mem hm
      rw [g3] at e'
      cases e'
      exact q _ d3
    have nL : a ≠ X.env.locals := fun z => nfr (List.mem_filterMap.mpr ⟨X.env, List.mem_cons_self, hf.trans (congrArg some z.symm)⟩)
    have nF : a ∉ X.fs := fun hm => by
      obtain ⟨e, he, q⟩ := List.mem_filterMap.mp hm
      exact nfr (List.mem_filterMap.mpr ⟨e, List.mem_cons_of_mem _ he, q⟩)
    have fresh : ∀ o, sI.heap.get? a ≠ some o := fun o e => by
      have q := nb' a o e nfr
      rw [fl3.2.1] at q
      cases q
    have new0 : a ∉ X.ex → X.s_0.heap.get? a = none := by
      intro hx
      cases e : X.s_0.heap.get? a with
      | none => rfl
      | some o =>
        obtain ⟨o', e'⟩ := J.base.there a o e hx
        exact absurd e' (fresh o')
    have newC : ∀ y c, X.env.cells.lookup y = some c → c ≠ a := fun y c e z => by
      obtain ⟨v, oc, q, _⟩ := J.cell y c e
      rw [z] at q
      exact fresh _ q
    have newP : ∀ p ∈ X.pn ++ pins, p.1 ≠ a := fun p hp z => by
      have q := (J.pin p hp).1
      rw [z] at q
      exact fresh _ q
    have J3 : Inv X pins σ' H' { s' with heap := h3 } := J.landed nb fl3.1 (up.trans up3) os ag
    have S3 := J3.suite g3 d3 na nL nF
    refine wpAny_handleBy_cons (codeAny_handlers_test ?_) (by intro q; cases q)
    have LM := PySem.W.exm_one (M := model X.prog X.w) (J3.kIn) (show PySem.W.Looks (model X.prog X.w) h3 (typeOf (.ref a)) cls from fun A Q E s k q => wpAny_typeOf_ref (k _ _ g3) (by rw [z3.1]; exact q)) hex
    have test : ∀ {Q : Value → Shared → Prop} {E : Value → Shared → Prop}, Q c { s' with heap := h3 } → wpAny (model X.prog X.w) (X.A.mark (some (.ref a))) (eval (.Name x np) X.env) Q E { s' with heap := h3 } := by
      intro Q E q
      obtain ⟨hg, hdbg, hm | ⟨hm, hv, hnn⟩⟩ := hc
      · exact ld_glob (X := X.suite a ((a, o3) :: (X.pn ++ pins))) S3 hg hm q hdbg
      · exact ld_blt (X := X.suite a ((a, o3) :: (X.pn ++ pins))) S3 hg hm hv q hnn hdbg
    refine test (LM.here (codeAny_handlers_suite_as ?_))
    refine HandSPX.lands_againZ fl3 fun h4 fl4 up4 => ?_
    have J4 : Inv X pins σ' H' { s' with heap := h4 } := J.landed nb fl4.1 ((up.trans up3).trans up4) os ag
    obtain ⟨o4, v4, g4, z4, d4⟩ := fl4.there
    refine store_ok (X := X.suite a ((a, o4) :: (X.pn ++ pins))) (v := .ref a) (J4.suite g4 d4 na nL nF) hN hi (.inl hln) rfl (fun s5 S5 => ?_) (.inr hln)
    refine wpAny_mono ((hsu a o4 cls d (X.pn ++ pins) z4 ⟨_, d4⟩).run [] s5 _ H' _ S5 (hts J.len a na)) (fun f s6 q => ?_) fun _ _ z => z.elim
    cases f with
    | next =>
      obtain ⟨σ6, H6, S6, q6⟩ := q
      refine gone_ok (mine S6 ok) hN hi hln fun s7 J7 => ?_
      have hn : H6 a = none := (J7.pin (a, o4) (List.mem_append_right _ List.mem_cons_self)).2.1
      have g7 := (J7.pin (a, o4) (List.mem_append_right _ List.mem_cons_self)).1
      exact ⟨_, _, seen (unpin J7) hn nL new0 newC newP (show ObjOk X.prog X.w _ _ _ (.ext (Kept cls d a)) from ⟨⟨o4, g7, z4, _, d4⟩, ⟨_, g7⟩, fun h1 h2 ⟨oe, e1, e2⟩ hk => ⟨oe, hk _ e1, e2⟩⟩), q6 hn⟩
    | brk =>
      obtain ⟨_, _, _, z⟩ := q
      exact z.elim
    | cont =>
      obtain ⟨_, _, _, z⟩ := q
      exact z.elim
    | ret u =>
      obtain ⟨_, _, _, _, _, z⟩ := q
      exact z.elim
  refine wpAny_Try_except (wpAny_mono ((hb _ (X.pn ++ pins) hand take PassesOwn.looking).run [] s σ H D (I.toTry _) h) (fun f s1 q => ?_) fun e s1 he => he)
  have q' : SP X pins D f s1 := back q
  cases f with
  | next => exact wpAny_execs_nil q'
  | ret u => exact q'
  | brk => exact q'
  | cont => exact q'
/-- isinstance(e, c), e an exception that was kept -/
def rIsKept (K : PySem.W.Frag) : List V → Hp → VK → Prop := fun xs H Q => ∃ (a D : Addr) (c : V) (cv : Value) (b : Bool), xs = [.ref a, c] ∧ H a = some (.ext (Kept (.ref D) none a)) ∧ ExcC K D ∧ (∀ u, RelV c u → u = cv) ∧ PySem.W.kitOne K (.ref D) cv = some b ∧ Q (.bl b) H
theorem call_isKept : CallR X (.builtin "isinstance") (rIsKept X.K) := by
  intro pins s σ H xs us Q I r h
  obtain ⟨a, D, c, cv, b, rfl, ha, C, hcv, e, q⟩ := h
  cases r with
  | cons rx rr =>
    cases rr with
    | cons rt rr =>
      cases rr
      cases rx
      cases hcv _ rt
      obtain ⟨⟨oe, hget, hz, vs, hv⟩, _, _⟩ := (show ObjOk X.prog X.w H s.heap a (.ext (Kept (.ref D) none a)) from I.hok _ _ ha)
      have J : PySem.W.InstAt s.heap a oe D none := by
        obtain ⟨oc, od, oda, osl⟩ := oe
        obtain ⟨h1, h2⟩ := hz
        dsimp only at h1 h2 hv
        subst h1 h2 hv
        exact ⟨hget, rfl, rfl, trivial⟩
      refine PySem.W.kia_one (PySem.W.handS_kitx_exc C.hg C.hk C.hs C.hd C.ha C.hn C.ht C.hm) I.kIn J e (fun z => nomatch z) fun tk => ?_
      exact ⟨.bl b, H, I.kept (t' := tk) fun _ _ z => z, rfl, q⟩
end
end SWL
set_option Elab.async false
set_option linter.all false
set_option maxRecDepth 100000
set_option maxHeartbeats 4000000
namespace SWL
open PySem PySem.Spec PyProof.Rows L2 LamX
/-! the def that calls what it got and hands back the exception that it caught -/
def TCaught (K : PySem.W.Frag) (CS : Addr) : (XK → Hp → VK → Prop) → Hp → VK → Prop := fun tl H Q =>
  tl (fun cls d H' => PySem.W.exmOne K cls (.ref CS) = some true ∧ ∀ a, H' a = none → Q (.ref a) (upd H' a (.ext (Kept cls d a)))) H (fun _ H' => ∃ v, (some (some V.non) : Option (Option V)) = some (some v) ∧ Q v H')
section
variable {X : Cx}
theorem caught_gives {x a fnd err en q : Str} {sg : Scope} {g CS : Addr} {cdg : Value} {p1 p2 p3 p4 p5 p6 p7 p8 p9 p10 p11 p12 p13 p14 : Pos} {j : Nat}
    (hge : sg.names.lookup en = some .globalImplicit) (hme : X.mg en = some (.ref CS)) (hde : (en == ("__debug__" : Str)) = false)
    (hlf : sg.names.lookup fnd = some .local) (hle : sg.names.lookup err = some .local)
    (hN : [a, fnd, err].Nodup) (df : (fnd == ("__debug__" : Str)) = false) (cf : (fnd == ("__classdict__" : Str)) = false) (de : (err == ("__debug__" : Str)) = false) (ce : (err == ("__classdict__" : Str)) = false) :
    GivesTo X [a, fnd, err] x sg g cdg [.Assign [.Name fnd p1] (.Constant .none j p2) p3, .Try [.Expr (.Call (.Name a p4) [] [] p5) p6] [.ExceptHandler (some (.Name en p7)) (some err) [.Assign [.Name fnd p8] (.Name err p9) p10] p11] [] [] p12, .Return (some (.Name fnd p13)) p14] a q (TCaught X.K CS) := by
  intro f c' s H Q tl act hc h
  have hgl : Gl (cxOf C8.CX0 X.prog X.w X.K X.mg X.base [a, fnd, err] x sg g cdg X.A X.stack s H C8.E0).nox en := hge
  have la : Loc sg fnd := .inl hlf
  have le : Loc sg err := .inl hle
  refine ⟨_, pss_cons (ps_set (X := (cxOf C8.CX0 X.prog X.w X.K X.mg X.base [a, fnd, err] x sg g cdg X.A X.stack s H C8.E0).nox) (i := 1) hN rfl la pe_non (hf := .inr hlf))
    (pss_cons (ps_try_keep (X := (cxOf C8.CX0 X.prog X.w X.K X.mg X.base [a, fnd, err] x sg g cdg X.A X.stack s H C8.E0).nox) (c := .ref CS) (i := 2)
      (tb := fun W D σ H => ∃ Ech : XK, (∀ cls d σ' H', Ech cls d H' → W cls d σ' H') ∧ σ[0]? = some (some (.ref f)) ∧ H c' = some (CodeO c' q) ∧ tl Ech H fun _ H' => D.nx σ H')
      rfl rfl hN rfl hle ⟨hgl, hde, .inl hme⟩ (fun W pn xe tk _ => ?_) (fun a' oe cls d pn _ _ => pss_one (ps_set (i := 1) hN rfl la (pe_var (i := 2) rfl (.inl hle) de ce) (hf := .inr hlf))))
    (pss_one (ps_ret (pe_var (i := 1) rfl (.inl hlf) df cf)))), ?_⟩
  · refine ⟨fun pins s' σ H' D I h' => ?_⟩
    obtain ⟨Ech, hW, h1, h2, h3⟩ := h'
    have hp := act W pn xe Ech p4 p5 tk hW
    exact (pss_one (ps_expr (pos := p6) hp (by rfl))).run pins s' σ H' D I ⟨h1, h2, h3⟩
  · refine ⟨fun cls d H' => PySem.W.exmOne X.K cls (.ref CS) = some true ∧ ∀ a, H' a = none → Q (.ref a) (upd H' a (.ext (Kept cls d a))), fun cls d σ' H' ⟨e1, e2⟩ => ⟨e1, fun hl a' na => ?_⟩, rfl, hc, h⟩
    obtain ⟨s0, s1, s2, rfl⟩ : ∃ s0 s1 s2, σ' = [s0, s1, s2] := by
      match σ', hl with
      | [x, y, z], _ => exact ⟨x, y, z, rfl⟩
    exact ⟨_, rfl, fun na' => ⟨_, rfl, e2 a' na'⟩⟩
end
end SWL
set_option Elab.async false
set_option linter.all false
set_option maxRecDepth 100000
set_option maxHeartbeats 4000000
namespace SWL
open PySem PySem.Spec PyProof.Rows L2 LamX
/-! defs that ask that no guard is in hand (for repr): their promises, their calls, and the end of a law row with them -/
structure FnG (P : Program) (w : World) (K : PySem.W.Frag) (mg : Str → Option Value) (base : Heap) (k : Nat) (f : Addr) (fd : FuncData) (ps : List Str) (sp : Sp) : Prop where
  len : ∀ vs H Q E, sp vs H Q E → vs.length = ps.length
  run : ∀ (A : Around) (outer : List Env) (s : Shared) (H : Hp) (args : Args) (us : List Value) (vs : List V) (Q : VK) (E : XK), A.guards = some [] → Room k A → Env0 P w K mg base A outer s H → BindsTo s fd args (ps.zip us) → Vals vs us → sp vs H Q E →
    codeAny (model P w) A (.call (.ref f) args) (CR CX0 outer P w H s Q E) s
theorem guards_deeper {A : Around} (env : Env) (h : A.guards = some []) : (A.deeper env).guards = some [] := h
section
variable {P : Program} {w : World} {K : PySem.W.Frag} {mg : Str → Option Value} {base : Heap}
theorem fng_ok {x qual : Str} {st : Stmt} {f : Addr} {fd : FuncData} {N ps : List Str} {k : Nat} {sp : Sp} (F : L2.Fun K x qual st f fd) (S : FnScope N ps (defScope st)) (len : ∀ vs H Q E, sp vs H Q E → vs.length = ps.length)
    (hbody : ∀ (cdv : Value) (A : Around) (outer : List Env) (s : Shared) (H : Hp) (vs : List V) (Q : VK) (E : XK), A.guards = some [] → PySem.W.codeIn K cdv qual = true → Room k (A.deeper (envOfC qual (defScope st) s.heap.objs.size f cdv)) → sp vs H Q E →
      ∃ t, PSs (cxOf CX0 P w K mg base N qual (defScope st) f cdv A outer s H E).nox (defBody st) t ∧ t { nx := fun _ H' => Q .non H', rt := Q } (L2.start N vs) H) : FnG P w K mg base (k + 1) f fd ps sp := by
  obtain ⟨oc, od, kV, doc, pm, an, cdv, ct, osl, rfl, lk, hcd⟩ := F.ex
  refine ⟨len, fun A outer s H args us vs Q E gA hr e0 hb r hsp => ?_⟩
  refine run_ofS lk hcd S hr e0 hb r (len _ _ _ _ hsp) fun hr2 => ?_
  obtain ⟨t, h, q⟩ := hbody cdv A outer s H vs Q E gA hcd hr2 hsp
  exact ⟨t, h.nox, q⟩
end
section
variable {X : Cx} {k : Nat} {f : Addr} {fd : FuncData} {ps : List Str} {sp : Sp} {E : XK} {x : Str} {p pos : Pos} {e : Expr} {es : List Expr} {t : TA}
theorem pe_callG (gd : X.A.guards = some []) (F : FnG X.prog X.w X.K X.mg X.base k f fd ps sp) (hr : Room k X.A) (hg : Gl X x) (hm : X.mg x = some (.ref f)) (hk : PySem.W.keepIn X.K (.ref f) = true) (hb : Binds X.K fd ps [])
    (ha : PA X (e :: es) t) (hdb : (x == ("__debug__" : Str)) = false := by decide) (he : starEach (e :: es) X.env = (false, eval e X.env) :: starEach es X.env := by rfl) (hpl : (backTo pos (starEach es X.env)).any (·.1) = false := by rfl) :
    PE X (.Call (.Name x p) (e :: es) [] pos) (tCall sp [] E0 t) := by
  constructor
  intro pins s σ H Q I h
  refine wpAny_Call_Name_kw (ld_glob I hg hm (PySem.W.callWith_K (h₀ := X.base) I.ok.mod.kin hk (thn (ha.run pos pins s σ H _ I h) fun us s1 ⟨vs, H1, I1, r, q⟩ => ⟨I1.kIn, ?_⟩) he hpl) hdb)
  have q : sp vs H1 Q E0 := by
    have z : sp (vs ++ []) H1 Q E0 := q
    rw [List.append_nil] at z
    exact z
  have hl : us.length = ps.length := r.length.symm.trans (F.len _ _ _ _ q)
  have hb1 := hb s1 us I1.kIn (by rw [List.append_nil]; exact hl)
  rw [List.append_nil] at hb1
  refine wpAny_call (codeAny_mono (F.run X.A X.stack s1 H1 ⟨us, []⟩ us vs Q E0 gd hr I1.env0 hb1 r q) fun r s' hq => ?_)
  match r, hq with
  | .error _, z => exact False.elim z
  | .ok (.ret u), z => exact I1.after z
  | .ok .next, z => exact False.elim z
  | .ok .brk, z => exact False.elim z
  | .ok .cont, z => exact False.elim z
end
theorem vals_rev : ∀ {xs : List V} {us : List Value}, Vals xs us → Vals xs.reverse us.reverse
  | _, _, .nil => .nil
  | _, _, .cons h t => by
    rw [List.reverse_cons, List.reverse_cons]
    exact (vals_rev t).append (.cons h .nil)
/-! the end -/
/-- what is tracked at the start: the tables, the script -/
def hp0 (T : List Addr) (a : Addr) (own : Bool) (o : Obj) (xs : List V) : Hp := fun b => if b ∈ T then some (.tbl #[]) else if b = a ∧ own = true then some (.frz o (.lst xs)) else none
theorem hp0_tab {T : List Addr} {a : Addr} {own : Bool} {o : Obj} {xs : List V} {b : Addr} (h : b ∈ T) : hp0 T a own o xs b = some (.tbl #[]) := if_pos h
theorem hp0_cases {T : List Addr} {a : Addr} {own : Bool} {o : Obj} {xs : List V} (b : Addr) : (b ∈ T ∧ hp0 T a own o xs b = some (.tbl #[])) ∨ (b ∉ T ∧ b = a ∧ own = true ∧ hp0 T a own o xs b = some (.frz o (.lst xs))) ∨ (b ∉ T ∧ hp0 T a own o xs b = none) := by
  by_cases h : b ∈ T
  · exact .inl ⟨h, if_pos h⟩
  · by_cases h2 : b = a ∧ own = true
    · exact .inr (.inl ⟨h, h2.1, h2.2, (if_neg h).trans (if_pos h2)⟩)
    · exact .inr (.inr ⟨h, (if_neg h).trans (if_neg h2)⟩)
/-- what is known of the law's promise at the head's heap -/
def LawG (l : PySem.W.OpenLaw) (w : World) (K : PySem.W.Frag) (k n : Nat) (x : Str) (mg : Str → Option Value) (fa : Addr) (h : Heap) : Prop :=
  ∃ (fd : FuncData) (cs : List (Addr × Addr)) (sp : Sp), (∀ p ∈ cs, h.get? p.2 = some { cls := .none, data := .fields #[] }) ∧ (∀ p ∈ cs, K.lookup p.2 = none) ∧ (∀ p ∈ cs, PySem.W.CodeHd h p.1 p.2) ∧ (∀ (s : Shared) (u : Value), BindsTo s fd ⟨[u], []⟩ [(x, u)]) ∧
    (∀ (H : Hp) (a : Addr) (ns : List Int), ns.length ≤ n → (∀ z ∈ ns, Builtin.Int.intBits z ≤ 1048576) → (∀ p ∈ cs, H p.2 = some (.tbl #[])) → SqL K H a (ns.map V.int) → sp [.ref a] H (fun v _ => v = .bl true) fun _ _ _ => False) ∧
    ∀ base : Heap, K.In base → base.Ns mainGlobals mg → (∀ p ∈ cs, TabB base mg p.1 p.2) → FnG l.prog w K mg base k fa fd [x] sp
theorem law_callG {P : Program} {w : World} {K : PySem.W.Frag} {mg mb : Str → Option Value} {k : Nat} {fa a : Addr} {cs : List (Addr × Addr)} {fd : FuncData} {x : Str} {sp : Sp} {s : Shared} {vs : List Value} {ns : List Int}
    (KX : K.In s.heap) (hns : s.heap.Ns mainGlobals mg) (hb : s.heap.Ns builtinsNs mb) (hbb : ∀ x : Str, x ≠ "__name__" → mb x = bootBuiltins x) (hlim : s.heap.NoLimit) (hg : s.gens = #[])
    (hT : ∀ p ∈ cs, s.heap.get? p.2 = some { cls := .none, data := .fields #[] }) (nT : ∀ p ∈ cs, K.lookup p.2 = none) (C : ∀ p ∈ cs, PySem.W.CodeHd s.heap p.1 p.2)
    (hbm : ∃ (bm : Addr) (ob : Obj), mg "__builtins__" = some (.ref bm) ∧ bm ≠ builtinsNs ∧ s.heap.get? bm = some ob ∧ ob.cls = .type "module" ∧ ob.dict = some builtinsNs ∧ ob.data = .plain)
    (ha : s.heap.get? a = some { cls := .type "list", data := .seq vs.toArray }) (hi : IntsAre vs ns) (hl : ns.length ≤ sizeLine) (hr : Room k callerA)
    (F : ∀ base : Heap, K.In base → base.Ns mainGlobals mg → (∀ p ∈ cs, TabB base mg p.1 p.2) → FnG P w K mg base k fa fd [x] sp) (hbind : ∀ (s : Shared) (u : Value), BindsTo s fd ⟨[u], []⟩ [(x, u)])
    (hsp : ∀ H : Hp, (∀ p ∈ cs, H p.2 = some (.tbl #[])) → SqL K H a (ns.map V.int) → sp [.ref a] H (fun v _ => v = .bl true) fun _ _ _ => False) :
    codeAny (model P w) callerA (.call (.ref fa) ⟨[.ref a], []⟩) (fun r s' => r = .ok (.ret (.bool true)) ∧ OldK s.heap s'.heap ∧ s'.os = s.os ∧ AllBare s'.gens) s := by
  generalize hTs : cs.map (·.2) = T
  have inT : ∀ {p}, p ∈ cs → p.2 ∈ T := fun hp => by rw [← hTs]; exact List.mem_map.mpr ⟨_, hp, rfl⟩
  have ofT : ∀ {b}, b ∈ T → ∃ p ∈ cs, p.2 = b := fun hb => by rw [← hTs] at hb; exact List.mem_map.mp hb
  have atT : ∀ {b}, b ∈ T → s.heap.get? b = some { cls := .none, data := .fields #[] } := fun hb => by
    obtain ⟨p, hp, e⟩ := ofT hb
    rw [← e]
    exact hT p hp
  let os : Obj := { cls := .type "list", data := .seq vs.toArray }
  let own : Bool := (K.lookup a).isNone
  let H : Hp := hp0 T a own os (ns.map V.int)
  have aT : a ∉ T := fun z => by
    have q := (atT z).symm.trans ha
    cases q
  have rv := vals_ints hi
  have hHT : ∀ p ∈ cs, H p.2 = some (.tbl #[]) := fun p hp => hp0_tab (inT hp)
  have seq : SqL K H a (ns.map V.int) := by
    cases e : K.lookup a with
    | some o =>
      have z := (KX a o e).symm.trans ha
      cases z
      exact .inr ⟨_, vs.toArray, _, e, rfl, rfl, rfl, by rw [List.size_toArray, hi.length]; exact hl, by simpa using rv⟩
    | none =>
      have hown : own = true := by show (K.lookup a).isNone = true; rw [e]; rfl
      exact .inl (.inr ⟨os, (if_neg aT).trans (if_pos ⟨rfl, hown⟩)⟩)
  have hok : HOk P w H s.heap := fun b u e => by
    rcases hp0_cases (T := T) (a := a) (own := own) (o := os) (xs := ns.map V.int) b with ⟨h1, h2⟩ | ⟨_, rfl, _, h2⟩ | ⟨_, h2⟩
    · cases (show H b = some (.tbl #[]) from h2).symm.trans e
      exact atT h1
    · cases (show H b = _ from h2).symm.trans e
      exact ⟨ha, by rw [List.length_map]; exact hl, vs, _, rv, ha⟩
    · cases (show H b = none from h2).symm.trans e
  -- what is no list and no empty table is untracked
  have un0 : ∀ {b : Addr} {o : Obj}, s.heap.get? b = some o → (∀ vs n, o.data ≠ .seq vs n) → o.data ≠ .fields #[] → H b = none := fun {b o} e h1 h2 => by
    rcases hp0_cases (T := T) (a := a) (own := own) (o := os) (xs := ns.map V.int) b with ⟨q1, _⟩ | ⟨_, rfl, _, _⟩ | ⟨_, q⟩
    · cases e.symm.trans (atT q1)
      exact absurd rfl h2
    · cases e.symm.trans ha
      exact absurd rfl (h1 _ _)
    · exact q
  have hid : ∀ {b o}, s.heap.get? b = some o → H b = none → (hidT s.heap H).get? b = some o := fun e n => hidT_get e n
  have hidNs : ∀ {b m}, s.heap.Ns b m → (hidT s.heap H).Ns b m := fun ⟨o, es, ep, e, d, r⟩ => ⟨o, es, ep, hid e (un0 e (fun _ _ z => by rw [d] at z; cases z) fun z => by rw [d] at z; cases z), d, r⟩
  have hKb : K.In (hidT s.heap H) := fun b o e => hid (KX b o e) (by
    rcases hp0_cases (T := T) (a := a) (own := own) (o := os) (xs := ns.map V.int) b with ⟨q1, _⟩ | ⟨_, rfl, q2, _⟩ | ⟨_, q⟩
    · obtain ⟨p, hp, rfl⟩ := ofT q1
      cases (nT p hp).symm.trans e
    · have q3 : (K.lookup b).isNone = true := q2
      rw [e] at q3
      cases q3
    · exact q)
  have hM : L2.Mod K mg (hidT s.heap H) := by
    obtain ⟨mc, h1, h2⟩ := hlim
    exact ⟨hKb, hidNs hns, ⟨mb, hidNs hb, hbb⟩, mc, hidNs h1, h2⟩
  have TB : ∀ p ∈ cs, TabB (hidT s.heap H) mg p.1 p.2 := fun p hp => by
    have tp := hT p hp
    refine ⟨?_, ?_, fun z => ?_⟩
    · obtain ⟨o, us, file, tf, flags, tg, inF, text, tt, e1, r1, r2, r3, rest⟩ := C p hp
      refine ⟨o, us, file, tf, flags, tg, inF, text, tt, hid e1 (un0 e1 (fun _ _ z => by rw [r2] at z; cases z) fun z => ?_), r1, r2, r3, rest⟩
      rw [r2] at z
      cases z
      simp at r3
    · obtain ⟨bm, ob, b1, b2, b3, b4, b5, b6⟩ := hbm
      refine ⟨bm, ob, b1, b2, fun q => ?_, fun q => ?_, hid b3 (un0 b3 (fun _ _ z => by rw [b6] at z; cases z) fun z => by rw [b6] at z; cases z), b4, b5, b6⟩
      · obtain ⟨o, es, ep, e, hd, _⟩ := hns
        rw [q] at b3
        cases e.symm.trans b3
        cases hd.symm.trans b6
      · rw [q] at b3
        cases tp.symm.trans b3
        cases b6
    · obtain ⟨o, es, ep, e, hd, _⟩ := hns
      rw [z] at e
      cases tp.symm.trans e
      cases hd
  have e0 : Env0 P w K mg (hidT s.heap H) callerA [] s H := ⟨rfl, hM, fun b o e => of_hidT e, Nat.le_of_eq (hidT_size _ _), trivial, fun b hb => absurd (show b ∈ ([] : List Addr) from hb) (by simp), hok, .of_eq hg⟩
  refine codeAny_mono ((F _ hKb (hidNs hns) TB).run callerA [] s H ⟨[.ref a], []⟩ [.ref a] [.ref a] _ _ rfl hr e0 (hbind s (.ref a)) (.cons rfl .nil) (hsp H hHT seq)) fun r s' h => ?_
  match r, h with
  | .error _, z => exact False.elim z
  | .ok .next, z => exact False.elim z
  | .ok .brk, z => exact False.elim z
  | .ok .cont, z => exact False.elim z
  | .ok (.ret u), z =>
    obtain ⟨v, H', eos, bare, un, hok', rv', q⟩ := z
    cases (show v = .bl true from q)
    cases (show u = Value.bool true from rv')
    have same : ∀ b o, b ∉ T → s.heap.get? b = some o → s'.heap.get? b = some o := fun b o nb e => by
      rcases hp0_cases (T := T) (a := a) (own := own) (o := os) (xs := ns.map V.int) b with ⟨q1, _⟩ | ⟨_, rfl, _, q1⟩ | ⟨_, q1⟩
      · exact absurd q1 nb
      · have z2 := (hok' b _ (un.frzs b _ _ q1)).1
        cases e.symm.trans ha
        exact z2
      · exact un.keep b o e q1 (fun z => absurd (show b ∈ ([] : List Addr) from z) (by simp)) (by simp)
    have grown : ∀ p ∈ cs, ∃ more : Array Value, s'.heap.get? p.2 = some { cls := .none, data := .fields more } := fun p hp => by
      obtain ⟨more, z⟩ := un.tbls p.2 #[] (hHT p hp)
      exact ⟨_, hok' p.2 _ z⟩
    refine ⟨rfl, ⟨fun b o e => ?_, fun b o e => ?_⟩, eos, bare⟩
    · by_cases hb : b ∈ T
      · obtain ⟨p, hp, rfl⟩ := ofT hb
        obtain ⟨more, hm⟩ := grown p hp
        cases e.symm.trans (hT p hp)
        exact .inr (.inl ⟨((C p hp).tab (hT p hp)).isCodeTable, rfl, #[], more, rfl, by rw [Array.empty_append]; exact hm⟩)
      · exact .inl (same b o hb e)
    · by_cases hb : b ∈ T
      · obtain ⟨p, hp, rfl⟩ := ofT hb
        obtain ⟨more, hm⟩ := grown p hp
        exact ⟨_, hm⟩
      · exact ⟨o, same b o hb e⟩
theorem walk_ofG {l : PySem.W.OpenLaw} {n k : Nat} {q : Program} {loose : List Str} {XP : (Str → Option Value) → Heap → Prop} {YP : World → Heap → Prop} {d : DefRec} {K : Params → PySem.W.Frag} {x : Str}
    (hn : l.most = some n) (hn2 : n ≤ sizeLine) (hdf : d.params.defaults = []) (hr : Room k callerA) (hY : ∀ (w : World) (h : Heap), YP w h → (K w.params).In h)
    (F : ∀ (w : World) (mg : Str → Option Value) (fa : Addr) (h : Heap) (lo : List Str) (mean : ExcName → Option Value) (mb : Str → Option Value), Top q lo mean mg mb h → YP w h → (K w.params).In h → h.Ns mainGlobals mg → mg d.name = some (.ref fa) → LawG l w (K w.params) k n x mg fa h) :
    PySem.W.WalkO q loose XP YP l.row.toRowW d [] (fun f vs => PySem.call f vs) := by
  refine Att.attach_callB hn hdf fun w s₀ s₁ mg mb fa o pm cd doc a vs ns G Y ho hd hcd hmg hobj hints hlen hbits hg => ?_
  obtain ⟨fd, cs, sp, hT, nT, C, hb, hsp, hF⟩ := F w mg fa _ _ _ _ G.T Y (hY w _ Y) G.T.g hmg
  exact law_callG (hY w _ Y) G.T.g G.T.b G.T.builtins G.T.nolimit hg hT nT C G.T.bmain hobj hints (Nat.le_trans hlen hn2) hr hF hb fun H hH hS => hsp H a ns hlen hbits hH hS
end SWL
set_option Elab.async false
set_option linter.all false
set_option maxRecDepth 100000
set_option maxHeartbeats 4000000
namespace SWL
open PySem PySem.Spec PyProof.Rows L2 LamX
/-! f(k = v, ..) without a positional value; comprehensions whose turns only grow the heap -/
section
variable {X : Cx} {CX : CXT} {k : Nat} {f : Addr} {fd : FuncData} {ps ks : List Str} {sp : Sp} {E : XK} {x : Str} {p pos : Pos} {kws : List Keyword} {tk : TA} {g : List Value → List Value → List Value} {gV : List V → List V → List V}
def tKw (sp : Sp) (gV : List V → List V → List V) (E : XK) (tk : TA) : TE := fun σ H Q => tk σ H fun zs H2 => sp (gV [] zs) H2 Q E
theorem pe_kwCall (F : FnOk X.prog X.w X.K X.mg X.base CX k f fd ps sp) (hr : Room k X.A) (hg : Gl X x) (hm : X.mg x = some (.ref f)) (hk : PySem.W.keepIn X.K (.ref f) = true) (hb : KBinds X.K fd ps ks g gV) (hx : Passes CX X E)
    (hkw : PK X kws tk) (hall : (backToKw pos (keywordEach kws X.env)).all (·.1.isSome) = true := by rfl) (hks : (backToKw pos (keywordEach kws X.env)).filterMap (·.1) = ks := by rfl)
    (hdb : (x == ("__debug__" : Str)) = false := by decide)
    (hpl : ((backTo pos (starEach [] X.env)).any (·.1) || (backToKw pos (keywordEach kws X.env)).any (·.1.isNone)) = false := by rfl) :
    PE X (.Call (.Name x p) [] kws pos) (tKw sp gV E tk) := by
  constructor
  intro pins s σ H Q I h
  refine wpAny_Call_Name_kw (ld_glob I hg hm (PySem.W.callWith_KW0 (h₀ := X.base) I.ok.mod.kin hk hall ?_ hpl) hdb)
  refine thn (hkw.run pos pins s σ H _ I h) fun ws s2 ⟨zs, H2, I2, rz, q2⟩ => ⟨I2.kIn, ?_⟩
  rw [hks]
  exact run_fnk (us := []) (vs := []) F hr hb hx I2 .nil rz q2
end
theorem take_snoc {α : Type} : ∀ {l : List α} {i : Nat} {x : α}, l[i]? = some x → l.take (i + 1) = l.take i ++ [x] := fun {l i x} h => by rw [List.take_add_one, h]; rfl
theorem compF {J : It} {G : Hp → Prop} {xs : List V} (w : Walk J xs.length G (YAt xs)) (p : V → Bool) (f : V → V) {i : Nat} {tt : TT} {te : TE} {σ : L2.St} {H1 : Hp} {D : Addr} {Qd : Hp → Prop} (nD : H1 D = none) (hG : ∀ H, Grows H1 H → G H) (hz : (xs.filter p).length ≤ sizeLine)
    (htt : ∀ x H k, x ∈ xs → Grows H1 H → (∀ H', Grows H H' → k (p x) H') → tt ((σ.set i none).set i (some x)) H k)
    (hte : ∀ x H Q, x ∈ xs → p x = true → Grows H1 H → (∀ H', Grows H H' → Q (f x) H') → te ((σ.set i none).set i (some x)) H Q)
    (hd : ∀ H, Grows H1 H → H D = some (.lst ((xs.filter p).map f)) → Qd H) :
    ∃ W : Nat → Nat → Hp → Prop, (∃ m, W 0 m (upd H1 D (.lst []))) ∧ ∀ n m H, W n m H →
      (J.stop n H ∧ Qd H) ∨ (J.go n H ∧ ∃ Nx : Hp → Prop, (∀ H', Nx H' → ∃ m', m' < m ∧ W (n + 1) m' H') ∧ ∀ x H', J.yld n H x H' → gName i x (wipe σ [i]) H' fun σ2 H2 => wipe σ2 [i] = wipe σ [i] ∧ tt σ2 H2 fun b H3 =>
        if b = true then te σ2 H3 fun y H4 => ∃ acc, H4 D = some (.lst acc) ∧ acc.length < sizeLine ∧ Nx (upd H4 D (.lst (acc ++ [y]))) else Nx H3) := by
  have gU : ∀ {H : Hp} {o : HO}, Grows H1 H → Grows H1 (upd H D o) := fun g b u e => by
    rw [upd_ne (ne_of_none e nD)]
    exact g b u e
  refine lc_it w (fun n H => Grows H1 H ∧ H D = some (.lst (((xs.take n).filter p).map f))) ⟨Grows.new nD, by rw [upd_same]; rfl⟩ (fun n H _ h => hG H h.1) (fun n x H H' hn ⟨g, hD⟩ ⟨e, hx⟩ => ?_) fun H ⟨g, hD⟩ => hd H g (by rw [List.take_length] at hD; exact hD)
  subst e
  have hm : x ∈ xs := List.mem_of_getElem? hx
  refine ⟨by show (((σ.set i none).set i (some x)).set i none) = σ.set i none; simp, ?_⟩
  refine htt x H' _ hm g fun H2 g2 => ?_
  have et : ((xs.take (n + 1)).filter p).map f = ((xs.take n).filter p).map f ++ (if p x = true then [f x] else []) := by
    rw [take_snoc hx, List.filter_append, List.map_append]
    by_cases hp : p x = true <;> simp [hp]
  by_cases hp : p x = true
  · rw [if_pos hp]
    refine hte x H2 _ hm hp (g.trans g2) fun H3 g3 => ?_
    refine ⟨_, g3 _ _ (g2 _ _ hD), ?_, gU ((g.trans g2).trans g3), ?_⟩
    · rw [List.length_map]
      have hs : ((xs.take (n + 1)).filter p).length ≤ (xs.filter p).length := ((List.take_sublist (n + 1) xs).filter p).length_le
      rw [take_snoc hx, List.filter_append, List.length_append] at hs
      have h1 : ([x].filter p).length = 1 := by simp [hp]
      omega
    · rw [upd_same, et, if_pos hp]
  · rw [if_neg hp]
    refine ⟨g.trans g2, ?_⟩
    rw [et, if_neg hp, List.append_nil]
    exact g2 _ _ hD
theorem comp {J : It} {G : Hp → Prop} {xs : List V} (w : Walk J xs.length G (YAt xs)) (p : V → Bool) (f : V → V) {i : Nat} {tt : TT} {te : TE} {σ : L2.St} {H1 : Hp} {D : Addr} {Qd : Hp → Prop} (nD : H1 D = none) (hG : ∀ H, Grows H1 H → G H) (hz : xs.length ≤ sizeLine)
    (htt : ∀ x H k, x ∈ xs → Grows H1 H → (∀ H', Grows H H' → k (p x) H') → tt ((σ.set i none).set i (some x)) H k)
    (hte : ∀ x H Q, x ∈ xs → p x = true → Grows H1 H → (∀ H', Grows H H' → Q (f x) H') → te ((σ.set i none).set i (some x)) H Q)
    (hd : ∀ H, Grows H1 H → H D = some (.lst ((xs.filter p).map f)) → Qd H) :
    ∃ W : Nat → Nat → Hp → Prop, (∃ m, W 0 m (upd H1 D (.lst []))) ∧ ∀ n m H, W n m H →
      (J.stop n H ∧ Qd H) ∨ (J.go n H ∧ ∃ Nx : Hp → Prop, (∀ H', Nx H' → ∃ m', m' < m ∧ W (n + 1) m' H') ∧ ∀ x H', J.yld n H x H' → gName i x (wipe σ [i]) H' fun σ2 H2 => wipe σ2 [i] = wipe σ [i] ∧ tt σ2 H2 fun b H3 =>
        if b = true then te σ2 H3 fun y H4 => ∃ acc, H4 D = some (.lst acc) ∧ acc.length < sizeLine ∧ Nx (upd H4 D (.lst (acc ++ [y]))) else Nx H3) :=
  compF w p f nD hG (Nat.le_trans (List.length_filter_le p xs) hz) htt hte hd
/-- the signs of a text -/
theorem walk_signs (z : Str) : Walk (Its z) (signsV z).length (fun _ => True) (YAt (signsV z)) := by
  have hn : (signsV z).length = z.cps.size := by unfold signsV; simp
  rw [hn]
  refine walk_str.mono (fun _ _ => trivial) fun i H x H' hi _ ⟨e, c, hc, ex⟩ => ⟨e, ?_⟩
  unfold signsV
  rw [List.getElem?_map, Array.getElem?_toList, hc, ex]
  rfl
theorem signs_len (z : Str) : (signsV z).length = z.length := by
  unfold signsV
  rw [List.length_map, Array.length_toList]
  rfl
theorem signs_mem {z : Str} {x : V} (h : x ∈ signsV z) : ∃ c, c ∈ z.cps.toList ∧ x = .str ⟨#[c]⟩ := by
  obtain ⟨c, hc, rfl⟩ := List.mem_map.mp h
  exact ⟨c, hc, rfl⟩
theorem filter_yes {α : Type} (l : List α) : l.filter (fun _ => true) = l := List.filter_eq_self.mpr fun _ _ => rfl
end SWL
set_option Elab.async false
set_option linter.all false
set_option maxRecDepth 100000
set_option maxHeartbeats 4000000
namespace SWL
open PySem PySem.Spec PyProof.Rows L2 LamX
/-! a comprehension over zip(text, text) -/
theorem walk_pairs (x y : Str) : Walk (PairsS x y) (x.cps.toList.zip y.cps.toList).length (fun _ => True) (fun i H v H' => ∃ (T : Addr) (c d : Nat), v = .ref T ∧ H T = none ∧ H' = upd H T (.tup [.str ⟨#[c]⟩, .str ⟨#[d]⟩]) ∧ (x.cps.toList.zip y.cps.toList)[i]? = some (c, d)) := by
  have hn : (x.cps.toList.zip y.cps.toList).length = min x.cps.size y.cps.size := by simp
  rw [hn]
  refine ⟨fun _ _ hi _ => hi, fun _ _ => rfl, fun i H v H' hi _ q => ?_⟩
  obtain ⟨T, c, d, h1, h2, h3, h4, h5⟩ := q
  exact ⟨T, c, d, h1, h2, h3, List.getElem?_zip_eq_some.mpr ⟨by rw [Array.getElem?_toList]; exact h4, by rw [Array.getElem?_toList]; exact h5⟩⟩
theorem compZ {K : PySem.W.Frag} {x y : Str} (f : Nat × Nat → V) {i j : Nat} {te : TE} {σ : L2.St} {H1 : Hp} {D : Addr} {Qd : Hp → Prop} (nD : H1 D = none) (hij : i ≠ j) (hz : x.length ≤ sizeLine)
    (hte : ∀ c d H Q, (c, d) ∈ x.cps.toList.zip y.cps.toList → Grows H1 H → (∀ H', Grows H H' → Q (f (c, d)) H') → te ((((σ.set j none).set i none).set i (some (.str ⟨#[c]⟩))).set j (some (.str ⟨#[d]⟩))) H Q)
    (hd : ∀ H, Grows H1 H → H D = some (.lst ((x.cps.toList.zip y.cps.toList).map f)) → Qd H) :
    ∃ W : Nat → Nat → Hp → Prop, (∃ m, W 0 m (upd H1 D (.lst []))) ∧ ∀ n m H, W n m H →
      ((PairsS x y).stop n H ∧ Qd H) ∨ ((PairsS x y).go n H ∧ ∃ Nx : Hp → Prop, (∀ H', Nx H' → ∃ m', m' < m ∧ W (n + 1) m' H') ∧ ∀ x' H', (PairsS x y).yld n H x' H' → gTup K 2 (gCons (gName i) (gCons (gName j) gNil)) x' (wipe σ [i, j]) H' fun σ2 H2 => wipe σ2 [i, j] = wipe σ [i, j] ∧ tYes σ2 H2 fun b H3 =>
        if b = true then te σ2 H3 fun y H4 => ∃ acc, H4 D = some (.lst acc) ∧ acc.length < sizeLine ∧ Nx (upd H4 D (.lst (acc ++ [y]))) else Nx H3) := by
  have gU : ∀ {H : Hp} {o : HO}, Grows H1 H → Grows H1 (upd H D o) := fun g b u e => by
    rw [upd_ne (ne_of_none e nD)]
    exact g b u e
  refine lc_it (walk_pairs x y) (fun n H => Grows H1 H ∧ H D = some (.lst (((x.cps.toList.zip y.cps.toList).take n).map f))) ⟨Grows.new nD, by rw [upd_same]; rfl⟩ (fun n H _ h => trivial) (fun n v H H' hn ⟨g, hD⟩ ⟨T, c, d, hv, hT, hH', hcd⟩ => ?_) fun H ⟨g, hD⟩ => hd H g (by rw [List.take_length] at hD; exact hD)
  subst hH'
  have gT : Grows H (upd H T (.tup [.str ⟨#[c]⟩, .str ⟨#[d]⟩])) := Grows.new hT
  refine ⟨T, _, hv, .inl (.inl upd_same), rfl, _, _, rfl, _, _, rfl, rfl, ?_, ?_⟩
  · show (((((σ.set j none).set i none).set i _).set j _).set j none).set i none = (σ.set j none).set i none
    simp only [List.set_set]
    rw [List.set_comm _ _ hij]
    simp only [List.set_set]
  · refine hte c d _ _ (List.mem_of_getElem? hcd) (g.trans gT) fun H3 g3 => ?_
    refine ⟨_, g3 _ _ (gT _ _ hD), ?_, gU ((g.trans gT).trans g3), ?_⟩
    · rw [List.length_map, List.length_take]
      have : (x.cps.toList.zip y.cps.toList).length ≤ x.length := by
        rw [List.length_zip, Array.length_toList]
        exact Nat.min_le_left _ _
      omega
    · rw [upd_same, take_snoc hcd, List.map_append]
      rfl
end SWL
set_option Elab.async false
set_option linter.all false
set_option maxRecDepth 100000
set_option maxHeartbeats 4000000
namespace SWL
open PySem PySem.Spec PyProof.Rows L2 LamX
/-! enumerate(tuple); text * int -/
def IteT (K : PySem.W.Frag) (a : Addr) : It :=
  ⟨fun i H => ∃ (xs : List V) (x : V), SqT K H a xs ∧ xs[i]? = some x, fun i H v H' => ∃ T x, v = .ref T ∧ H T = none ∧ H' = upd H T (.tup [.int (i : Nat), x]) ∧ ∀ xs, SqT K H a xs → xs[i]? = some x, fun i H => ∃ xs : List V, SqT K H a xs ∧ xs.length = i⟩
theorem turn_enumT {P : Program} {w : World} {K : PySem.W.Frag} {elts : List Expr} {kk : Nat} {tpos : Pos} (a e it : Addr) :
    Turn P w K (.Tuple elts kk tpos) (IteT K a) [e, it] e (fun i h => (∃ old, IsEnum h e it (0 + ((i : Nat) : Int)) old) ∧ h.IsTupleIter it a i ∧ e ≠ it ∧ a ≠ it ∧ e ≠ a) where
  mem := by simp
  obj := fun i h st b hb => by
    obtain ⟨⟨old, he⟩, ⟨o, ho, hc, hd⟩, _⟩ := st
    rcases (by simpa using hb : b = e ∨ b = it) with z | z
    · exact ⟨_, by rw [z]; exact he, fun v q => by cases q⟩
    · exact ⟨o, by rw [z]; exact ho, fun v q => by rw [hd] at q; cases q⟩
  keep := fun i h h' st k => let ⟨⟨old, he⟩, hi, hne⟩ := st; ⟨⟨old, k e (by simp) _ he⟩, hi.at fun o q => k it (by simp) o q, hne⟩
  item := by
    intro X hP hw hK hc i pins s σ H E I hf st hg
    subst hP hw hK
    have hh : X.A.handled = none := I.ok.hd hc
    obtain ⟨xs, x, hq, hx⟩ := hg
    obtain ⟨its, rv, p, hz⟩ := I.tuple hq
    obtain ⟨he, hit, hne, hai, hea⟩ := st
    have G := GoesN.enumFrom (elts := elts) (x1 := kk) (pos := tpos) 0 (Draws.tuple (prog := X.prog) (w := X.w) (A := X.A.in1) hh it a hai its.toArray) e hne (by simp [hne, hea]) (by simp)
    have hlt : i < its.toArray.size := by
      have := (List.getElem?_eq_some_iff.mp hx).1
      have := rv.length
      simp
      omega
    refine G.goes i s _ E hlt ⟨he, hit, p⟩ fun v h' tk hY st' hk _ => ?_
    obtain ⟨T, t, u, rfl, hT, hu, hTup⟩ := hY
    have fr : H T = none := I.hok.fresh hT
    have ru : RelV x u := by
      obtain ⟨u', hu', ru⟩ := rv.get hx
      have e : its.toArray[i]? = some u' := by simpa using hu'
      rw [e] at hu
      cases hu
      exact ru
    refine ⟨.ref T, upd H T (.tup [.int (i : Nat), x]), I.turnedNew (t' := tk) (ch := [e, it]) hk hf hT ?_, rfl, ⟨T, x, rfl, fr, rfl, fun ys hy => by rw [I.tuple_inj hy hq]; exact hx⟩, ⟨st'.1, st'.2.1, hne, hai, hea⟩, fun b hb => ?_⟩
    · refine ⟨by show 2 ≤ sizeLine; decide, _, .cons ⟨t, ?_⟩ (.cons ru .nil), hTup⟩
      rw [Int.zero_add]
    · have hlt2 : b < s.heap.objs.size := by
        obtain ⟨old, he⟩ := he
        obtain ⟨o, ho, _⟩ := hit
        rcases (by simpa using hb : b = e ∨ b = it) with z | z
        · rw [z]; exact Heap.lt_size he
        · rw [z]; exact Heap.lt_size ho
      rw [upd_ne (Nat.ne_of_lt (Nat.lt_of_lt_of_le hlt2 hT))]
      exact (hf b hb).1
  done := by
    intro X hP hw hK hc i pins s σ H E I hf st hg
    subst hP hw hK
    have hh : X.A.handled = none := I.ok.hd hc
    obtain ⟨xs, hq, hx⟩ := hg
    obtain ⟨its, rv, p, hz⟩ := I.tuple hq
    obtain ⟨he, hit, hne, hai, hea⟩ := st
    have G := GoesN.enumFrom (elts := elts) (x1 := kk) (pos := tpos) 0 (Draws.tuple (prog := X.prog) (w := X.w) (A := X.A.in1) hh it a hai its.toArray) e hne (by simp [hne, hea]) (by simp)
    have hi : i = its.toArray.size := by
      have := rv.length
      simp
      omega
    rw [hi] at he hit
    exact G.stops s _ E ⟨he, hit, p⟩ fun h' tk hk _ => I.turnedL (t' := tk) (ch := [e, it]) hk hf
  self := fun A i s Q E st h => let ⟨⟨_, he⟩, _⟩ := st; wpAny_pyIter_enum he h
set_option maxHeartbeats 8000000 in
theorem meets_enum1 {v : Value} {o : Obj} {I : Heap → Prop} (B : Begins v o I) : Meets (Builtin.«enumerate.__new__» ⟨[.type "enumerate", v], []⟩) (fun _ R s => I s.heap ∧
      R (.ok (.ret (.ref (s.heap.push o).objs.size))) { s with heap := (s.heap.push o).push { cls := .type "enumerate", data := .fields #[.none, .bool false, .ref s.heap.objs.size, rawInt 0, .none, .none] } }) :=
  .of_wp fun prog w A R s h => by
    obtain ⟨hp, g, d, tk, os⟩ := s
    obtain ⟨h1, h⟩ := h
    have hsub := sub_enumerate
    have beg : ∀ {A' : Around} {E : Value → Shared → Prop} {Q : Value → Shared → Prop}, Q (.ref hp.objs.size) ⟨hp.push o, g, d, tk, os⟩ → wpAny (model prog w) A' (pyIter v) Q E ⟨hp, g, d, tk, os⟩ := fun q => B.iter prog w _ _ ⟨hp, g, d, tk, os⟩ _ h1 q
    wp_walk using beg
    refine wpAny_stack_any fun st => wpAny_pure ?_
    split
    · rename_i c _ _ _ _ _
      cases (c == Value.type "enumerate")
      · wp_walk using beg
        exact ⟨_, rfl, h⟩
      · wp_walk using beg
        exact ⟨_, rfl, h⟩
    · wp_walk using beg
      exact ⟨_, rfl, h⟩
theorem call_enum1 {prog : Program} {w : World} {A : Around} {E : Value → Shared → Prop} {s : Shared} {v : Value} {o : Obj} {I : Heap → Prop} {Q : Value → Shared → Prop} (B : Begins v o I) (h1 : I s.heap)
    (h : ∀ h', IsEnum h' (s.heap.objs.size + 1) s.heap.objs.size 0 .none → h'.get? s.heap.objs.size = some o → (∀ b o, s.heap.get? b = some o → h'.get? b = some o) → Q (.ref (s.heap.objs.size + 1)) { s with heap := h' }) :
    wpAny (model prog w) A (call (.type "enumerate") [v]) Q E s := by
  refine callType_new F.called_enumerate (by decide) (F.typeCall_enumerate_1 _) (F.newCall_enumerate_1 _) (fun obj => F.args_object_init_2 obj _) F.entry_enumerate_new (meets_enum1 B) ⟨h1, ?_⟩
  have hz : (s.heap.push o).objs.size = s.heap.objs.size + 1 := Heap.size_push ..
  show _ ∧ _
  rw [hz]
  have he : IsEnum ((s.heap.push o).push { cls := .type "enumerate", data := .fields #[.none, .bool false, .ref s.heap.objs.size, rawInt 0, .none, .none] }) (s.heap.objs.size + 1) s.heap.objs.size 0 .none := by
    have q := Heap.get?_push_size (s.heap.push o) (o := { cls := .type "enumerate", data := .fields #[.none, .bool false, .ref s.heap.objs.size, rawInt 0, .none, .none] }) rfl
    rw [hz] at q
    exact q
  exact ⟨⟨_, he, rfl⟩, h _ he (Heap.get?_push_of_some _ (Heap.get?_push_size _ B.free)) fun b o x => Heap.get?_push_of_some _ (Heap.get?_push_of_some _ x)⟩
def iEnumT (K : PySem.W.Frag) (ta : TA) : TI := fun σ H R => ta σ H fun vs H1 => ∃ a xs, vs = [.ref a] ∧ SqT K H1 a xs ∧ R (IteT K a) H1
theorem pi_enumT {X : Cx} {e : Expr} {ta : TA} {p pos tpos : Pos} {elts : List Expr} {kk : Nat} (hg : Gl X "enumerate") (hm : X.mg "enumerate" = none) (ha : PA X [e] ta) (hs : starEach [e] X.env = [(false, eval e X.env)] := by rfl) :
    PI X (.Tuple elts kk tpos) (.Call (.Name "enumerate" p) [e] [] pos) (iEnumT X.K ta) := by
  refine ⟨fun pins s σ H R I h => ?_⟩
  refine Call_ (ld_blt I hg hm boot_enumerate (PyProof.Rows.callWith_type1 (thn (ha.run pos pins s σ H _ I h) fun us s1 ⟨vs, H1, I1, r1, q1⟩ => ?_) hs rfl))
  obtain ⟨a, xs, rfl, hq, q⟩ := q1
  obtain ⟨u, rfl, ru⟩ := vals1 r1
  cases ru
  obtain ⟨its, rv, p', hz⟩ := I1.tuple hq
  refine call_enum1 (begins_tuple a its.toArray) p' fun h' he hit hk => wpAny_pyIter_enum he ?_
  have I2 : Inv X pins σ H1 { s1 with heap := h' } := I1.kept (t' := s1.toks) hk
  have hal : a < s1.heap.objs.size := by
    obtain ⟨o, ho, _⟩ := p'
    exact Heap.lt_size ho
  refine ⟨s1.heap.objs.size + 1, [s1.heap.objs.size + 1, s1.heap.objs.size], _, _, H1, rfl, I2, turn_enumT a (s1.heap.objs.size + 1) s1.heap.objs.size, ⟨⟨.none, by rw [Int.zero_add]; exact he⟩, ⟨_, hit, rfl, rfl⟩, Nat.succ_ne_self _, Nat.ne_of_lt hal, Nat.ne_of_gt (Nat.lt_succ_of_lt hal)⟩, fun b hb => ?_, q⟩
  have hle : s1.heap.objs.size ≤ b := by
    rcases (by simpa using hb : b = s1.heap.objs.size + 1 ∨ b = s1.heap.objs.size) with z | z <;> rw [z] <;> first | exact Nat.le_add_right _ _ | exact Nat.le_refl _
  exact I1.fpOk hle (I1.hok.fresh hle)
theorem walk_enumT {K : PySem.W.Frag} {a : Addr} {xs : List V} : Walk (IteT K a) xs.length (fun H => SqT K H a xs) (YPair (fun i => some (.int (i : Nat))) (fun i => xs[i]?)) := by
  refine ⟨fun i _ hi q => ⟨xs, xs[i], q, by simp [hi]⟩, fun _ q => ⟨xs, q, rfl⟩, fun i H v H' _ q y => ?_⟩
  obtain ⟨T, x, h1, h2, h3, h4⟩ := y
  exact ⟨T, .int (i : Nat), x, h1, h2, h3, rfl, h4 xs q⟩
theorem op_mulS {X : Cx} : OpR X (binaryOp .Mult) (fun x y H Q => ∃ (z : Str) (n : Nat), x = .str z ∧ y = .int n ∧ n ≤ 1000000 ∧ z.length * n ≤ 1000000 ∧ Q (.str (Txt.mul z n)) H) := by
  intro pins s σ H x y v u Q I rx ry h
  obtain ⟨z, n, rfl, rfl, hn, hz, q⟩ := h
  obtain ⟨t, rfl⟩ := rx
  obtain ⟨t', rfl⟩ := ry
  have b0 : (0 : Int) ≤ n := Int.natCast_nonneg n
  have b1 : (n : Int) ≤ 1000000 := by omega
  have c1 : ¬ ((n : Int) < -(2 ^ 63 : Int)) := fun h => absurd (Int.lt_of_le_of_lt b0 h) (by decide)
  have c2 : ¬ ((n : Int) ≥ 2 ^ 63) := fun h => absurd (Int.le_trans h b1) (by decide)
  refine SB.mul ⟨Bool.or_eq_false_iff.mpr ⟨decide_eq_false c1, decide_eq_false c2⟩, fun h1 _ h2 => ?_, fun h1 _ => ?_⟩ fun t2 k => ⟨.str (Txt.mul z n), H, I.kept (t' := k) fun _ _ e => e, ⟨t2, rfl⟩, q⟩
  · have h3 : (1 : Int) ≤ n := by omega
    have hn0 : (0 : Int) < n := by omega
    have h5 : ((z.length * n : Nat) : Int) ≤ 1000000 := by omega
    rw [Int.natCast_mul] at h5
    have h6 : ((2 : Int) ^ 63 - 1) / n * n ≤ 2 ^ 63 - 1 := Int.ediv_mul_le _ (by omega)
    have h7 : ((2 : Int) ^ 63 - 1) < (((2 : Int) ^ 63 - 1) / n + 1) * n := Int.lt_ediv_add_one_mul_self _ hn0
    have h8 : (((2 : Int) ^ 63 - 1) / n + 1) * n ≤ z.length * n := Int.mul_le_mul_of_nonneg_right (by omega) (by omega)
    omega
  · rw [Int.toNat_natCast]
    have e : sizeLine = 16777216 := sizeLine_eq
    exact decide_eq_false (by omega)
theorem mul_cps (z : Str) (n : Nat) : (Txt.mul z n).cps.toList = (List.replicate n z.cps.toList).flatten := by
  have fold : ∀ (n : Nat) (acc : Array Nat), ((List.replicate n z.cps).foldl (· ++ ·) acc).toList = acc.toList ++ (List.replicate n z.cps.toList).flatten := by
    intro n
    induction n with
    | zero => intro acc; simp
    | succ n ih =>
      intro acc
      rw [List.replicate_succ, List.foldl_cons, ih, List.replicate_succ, List.flatten_cons, Array.toList_append, List.append_assoc]
  unfold Txt.mul
  by_cases h : (n : Int) < 1
  · have : n = 0 := by omega
    subst this
    rw [if_pos h]
    rfl
  · rw [if_neg h]
    by_cases h2 : ((n : Int) == 1 || z.length == 0) = true
    · rw [if_pos h2]
      simp only [Bool.or_eq_true, beq_iff_eq] at h2
      rcases h2 with h2 | h2
      · have : n = 1 := by omega
        subst this
        simp
      · have : z.cps.toList = [] := List.length_eq_zero_iff.mp (by rw [Array.length_toList]; exact h2)
        rw [this]
        simp
    · rw [if_neg h2, Int.toNat_natCast]
      have := fold n #[]
      simpa using this
end SWL
set_option Elab.async false
set_option linter.all false
set_option maxRecDepth 100000
set_option maxHeartbeats 4000000
namespace SWL
open PySem PySem.Spec PyProof.Rows L2 LamX
/-! a list display over things of which more is known than their values -/
theorem compT {α : Type} {J : It} {G : Hp → Prop} {I : List α} {gv : α → V} (w : Walk J I.length G (YAt (I.map gv))) (p : α → Bool) (f : α → V) {own : List Nat} {g : TG} {tt : TT} {te : TE} {σ : L2.St} (τ : α → L2.St) {H1 : Hp} {D : Addr} {Qd : Hp → Prop} (nD : H1 D = none)
    (hG : ∀ H, Grows H1 H → G H) (hz : I.length ≤ sizeLine)
    (hgt : ∀ q H Q, q ∈ I → Grows H1 H → Q (τ q) H → g (gv q) (wipe σ own) H Q) (hw : ∀ q, wipe (τ q) own = wipe σ own)
    (htt : ∀ q H k, q ∈ I → Grows H1 H → (∀ H', Grows H H' → k (p q) H') → tt (τ q) H k)
    (hte : ∀ q H Q, q ∈ I → p q = true → Grows H1 H → (∀ H', Grows H H' → Q (f q) H') → te (τ q) H Q)
    (hd : ∀ H, Grows H1 H → H D = some (.lst ((I.filter p).map f)) → Qd H) :
    ∃ W : Nat → Nat → Hp → Prop, (∃ m, W 0 m (upd H1 D (.lst []))) ∧ ∀ n m H, W n m H →
      (J.stop n H ∧ Qd H) ∨ (J.go n H ∧ ∃ Nx : Hp → Prop, (∀ H', Nx H' → ∃ m', m' < m ∧ W (n + 1) m' H') ∧ ∀ x H', J.yld n H x H' → g x (wipe σ own) H' fun σ2 H2 => wipe σ2 own = wipe σ own ∧ tt σ2 H2 fun b H3 =>
        if b = true then te σ2 H3 fun y H4 => ∃ acc, H4 D = some (.lst acc) ∧ acc.length < sizeLine ∧ Nx (upd H4 D (.lst (acc ++ [y]))) else Nx H3) := by
  have gU : ∀ {H : Hp} {o : HO}, Grows H1 H → Grows H1 (upd H D o) := fun g b u e => by
    rw [upd_ne (ne_of_none e nD)]
    exact g b u e
  refine lc_it w (fun n H => Grows H1 H ∧ H D = some (.lst (((I.take n).filter p).map f))) ⟨Grows.new nD, by rw [upd_same]; rfl⟩ (fun n H _ h => hG H h.1) (fun n x H H' hn ⟨g1, hD⟩ ⟨e, hx⟩ => ?_) fun H ⟨g1, hD⟩ => hd H g1 (by rw [List.take_length] at hD; exact hD)
  subst e
  rw [List.getElem?_map] at hx
  obtain ⟨q, hq, rfl⟩ : ∃ q, I[n]? = some q ∧ x = gv q := by
    cases e : I[n]? with
    | none => rw [e] at hx; cases hx
    | some q => rw [e] at hx; exact ⟨q, rfl, (Option.some.inj hx).symm⟩
  have hm : q ∈ I := List.mem_of_getElem? hq
  refine hgt q H' _ hm g1 ⟨hw q, ?_⟩
  refine htt q H' _ hm g1 fun H2 g2 => ?_
  have et : ((I.take (n + 1)).filter p).map f = ((I.take n).filter p).map f ++ (if p q = true then [f q] else []) := by
    rw [take_snoc hq, List.filter_append, List.map_append]
    by_cases hp : p q = true <;> simp [hp]
  by_cases hp : p q = true
  · rw [if_pos hp]
    refine hte q H2 _ hm hp (g1.trans g2) fun H3 g3 => ?_
    refine ⟨_, g3 _ _ (g2 _ _ hD), ?_, gU ((g1.trans g2).trans g3), ?_⟩
    · rw [List.length_map]
      have hs : ((I.take (n + 1)).filter p).length ≤ (I.filter p).length := ((List.take_sublist (n + 1) I).filter p).length_le
      rw [take_snoc hq, List.filter_append, List.length_append] at hs
      have h1 : ([q].filter p).length = 1 := by simp [hp]
      have h2 := List.length_filter_le p I
      omega
    · rw [upd_same, et, if_pos hp]
  · rw [if_neg hp]
    refine ⟨g1.trans g2, ?_⟩
    rw [et, if_neg hp, List.append_nil]
    exact g2 _ _ hD
theorem comp1 {α : Type} {J : It} {G : Hp → Prop} {I : List α} {gv : α → V} (w : Walk J I.length G (YAt (I.map gv))) (p : α → Bool) (f : α → V) {i : Nat} {tt : TT} {te : TE} {σ : L2.St} {H1 : Hp} {D : Addr} {Qd : Hp → Prop} (nD : H1 D = none)
    (hG : ∀ H, Grows H1 H → G H) (hz : I.length ≤ sizeLine)
    (htt : ∀ q H k, q ∈ I → Grows H1 H → (∀ H', Grows H H' → k (p q) H') → tt ((σ.set i none).set i (some (gv q))) H k)
    (hte : ∀ q H Q, q ∈ I → p q = true → Grows H1 H → (∀ H', Grows H H' → Q (f q) H') → te ((σ.set i none).set i (some (gv q))) H Q)
    (hd : ∀ H, Grows H1 H → H D = some (.lst ((I.filter p).map f)) → Qd H) :
    ∃ W : Nat → Nat → Hp → Prop, (∃ m, W 0 m (upd H1 D (.lst []))) ∧ ∀ n m H, W n m H →
      (J.stop n H ∧ Qd H) ∨ (J.go n H ∧ ∃ Nx : Hp → Prop, (∀ H', Nx H' → ∃ m', m' < m ∧ W (n + 1) m' H') ∧ ∀ x H', J.yld n H x H' → gName i x (wipe σ [i]) H' fun σ2 H2 => wipe σ2 [i] = wipe σ [i] ∧ tt σ2 H2 fun b H3 =>
        if b = true then te σ2 H3 fun y H4 => ∃ acc, H4 D = some (.lst acc) ∧ acc.length < sizeLine ∧ Nx (upd H4 D (.lst (acc ++ [y]))) else Nx H3) :=
  compT w p f (own := [i]) (g := gName i) (fun q => (σ.set i none).set i (some (gv q))) nD hG hz (fun q H Q _ _ h => h) (fun q => by show (((σ.set i none).set i (some (gv q))).set i none) = σ.set i none; simp) htt hte hd
end SWL
set_option Elab.async false
set_option linter.all false
set_option maxRecDepth 100000
set_option maxHeartbeats 4000000
namespace SWL
open PySem PySem.Spec PyProof.Rows L2
/-! repr of any plain data -/
def askReprD (K : PySem.W.Frag) : List V → Hp → VK → Prop := fun xs H Q =>
  ∃ (x : V) (d : PyData), xs = [x] ∧ Dp K H x d ∧ d.showable = true ∧ d.hasDict = false ∧ d.depth ≤ 50 ∧ d.shown.length ≤ sizeLine ∧ Q (.str d.shown) H
section
variable {X : Cx}
theorem cr_reprD (gd : X.A.guards = some []) (hu : X.A.units + 64 < cLine) : CallR X (.builtin "repr") (askReprD X.K) := by
  intro pins s σ H xs us Q I rel q
  obtain ⟨x, d, rfl, hd, hs, hn, hdep, hlen, q⟩ := q
  have tk : ∀ {t : Tok}, Inv X pins σ H { s with toks := t } := fun {t} => I.kept (t' := t) (h' := s.heap) fun _ _ e => e
  have byRef : ∀ a, x = .ref a → _ := fun a (e : x = .ref a) => by
    subst e
    exact cr_repr gd hu pins s σ H _ us Q I rel ⟨a, d, rfl, hd, hs, hn, hdep, hlen, q⟩
  cases hd with
  | lst h1 h2 => exact byRef _ rfl
  | tup h1 h2 => exact byRef _ rfl
  | non =>
    obtain ⟨u, rfl, ru⟩ := vals1 rel
    cases ru
    exact PySem.P.repr_of_none ⟨.str (PyData.shown _), H, tk, ⟨_, rfl⟩, q⟩
  | bl b =>
    obtain ⟨u, rfl, ru⟩ := vals1 rel
    cases ru
    exact PySem.P.repr_of_bool ⟨.str (PyData.shown _), H, tk, ⟨_, rfl⟩, q⟩
  | int i =>
    obtain ⟨u, rfl, t, rfl⟩ := vals1 rel
    exact PySem.P.repr_of_int (of_decide_eq_true hs) ⟨.str (PyData.shown _), H, tk, ⟨_, rfl⟩, q⟩
  | str z =>
    obtain ⟨u, rfl, t, rfl⟩ := vals1 rel
    exact PySem.P.repr_of_str ⟨.str (PyData.shown _), H, tk, ⟨_, rfl⟩, q⟩ hlen
end
end SWL
set_option Elab.async false
set_option linter.all false
set_option maxRecDepth 100000
set_option maxHeartbeats 4000000
namespace SWL
open PySem PySem.Spec PyProof.Rows L2 LamX
/-! texts: a letter's first and last place, the text turned about, what is ahead and behind -/
theorem first_at {z : Str} {c : Nat} (hc : c ∈ z.cps.toList) : ∃ i rest, PySem.Builtin.Str.occurrences z ⟨#[c]⟩ 0 z.length 1 = i :: rest ∧ z.cps.toList[i]? = some c ∧ ∀ k, k < i → z.cps.toList[k]? ≠ some c := by
  rcases PySem.StrLaws.occ_head z ⟨#[c]⟩ 1 (Nat.le_refl _) with ⟨_, h⟩ | ⟨i, r, e, h1, h2⟩
  · obtain ⟨i, hi⟩ := List.getElem?_of_mem hc
    exact absurd ((PySem.StrLaws.subAt_one z c i).mpr hi) (h i)
  · exact ⟨i, r, e, (PySem.StrLaws.subAt_one z c i).mp h1, fun k hk z' => h2 k hk ((PySem.StrLaws.subAt_one z c k).mpr z')⟩
theorem last_at {z : Str} {c : Nat} (hc : c ∈ z.cps.toList) : ∃ i, PySem.Builtin.Str.lastOccurrence z ⟨#[c]⟩ 0 z.length = some i ∧ z.cps.toList[i]? = some c ∧ ∀ k, i < k → z.cps.toList[k]? ≠ some c := by
  rcases PySem.StrLaws.last_spec z ⟨#[c]⟩ with ⟨_, h⟩ | ⟨i, e, h1, h2⟩
  · obtain ⟨i, hi⟩ := List.getElem?_of_mem hc
    exact absurd ((PySem.StrLaws.subAt_one z c i).mpr hi) (h i)
  · exact ⟨i, e, (PySem.StrLaws.subAt_one z c i).mp h1, fun k hk z' => h2 k hk ((PySem.StrLaws.subAt_one z c k).mpr z')⟩
section
variable {X : Cx}
theorem mt_index : MtR X "str.index" (fun x xs H Q => ∃ (z : Str) (c : Nat), x = .str z ∧ xs = [.str ⟨#[c]⟩] ∧ c ∈ z.cps.toList ∧ ∀ i : Nat, z.cps.toList[i]? = some c → (∀ k, k < i → z.cps.toList[k]? ≠ some c) → Q (.int (i : Nat)) H) := by
  intro pins s σ H x xs v us Q I rx rs h
  obtain ⟨z, c, rfl, rfl, hc, q⟩ := h
  obtain ⟨t, rfl⟩ := rx
  cases rs with
  | cons r1 rs =>
    cases rs
    obtain ⟨u, rfl⟩ := r1
    obtain ⟨i, rest, e, h1, h2⟩ := first_at hc
    exact call_gives F.slot_str_index (typeIs_str _ _ _) F.entry_str_index (F.args_str_index_2 _ _) (gives_str_index z _ t u i rest e) ⟨.int i, H, I.tok _, ⟨_, rfl⟩, q i h1 h2⟩
theorem mt_rindex : MtR X "str.rindex" (fun x xs H Q => ∃ (z : Str) (c : Nat), x = .str z ∧ xs = [.str ⟨#[c]⟩] ∧ c ∈ z.cps.toList ∧ ∀ i : Nat, z.cps.toList[i]? = some c → (∀ k, i < k → z.cps.toList[k]? ≠ some c) → Q (.int (i : Nat)) H) := by
  intro pins s σ H x xs v us Q I rx rs h
  obtain ⟨z, c, rfl, rfl, hc, q⟩ := h
  obtain ⟨t, rfl⟩ := rx
  cases rs with
  | cons r1 rs =>
    cases rs
    obtain ⟨u, rfl⟩ := r1
    obtain ⟨i, e, h1, h2⟩ := last_at hc
    exact call_gives F.slot_str_rindex (typeIs_str _ _ _) F.entry_str_rindex (F.args_str_rindex_2 _ _) (gives_str_rindex z _ t u i e) ⟨.int i, H, I.tok _, ⟨_, rfl⟩, q i h1 h2⟩
/-- the text turned about -/
def revS (z : Str) : Str := ⟨z.cps.toList.reverse.toArray⟩
theorem rev_slice (z : Str) (u : Tok) : PySem.Txt.sliceBy z none none (-1, u) = revS z := by
  have e := step_rev_list z u
  have e2 : ((List.range z.length).map fun k => z.cps.getD (z.length - 1 - k) 0) = z.cps.toList.reverse := by
    have hl : z.cps.toList.length = z.length := Array.length_toList ..
    refine List.ext_getElem? fun i => ?_
    rw [List.getElem?_map]
    by_cases h : i < z.length
    · rw [List.getElem?_range h, List.getElem?_reverse (by omega), hl]
      have h2 : z.length - 1 - i < z.cps.toList.length := by omega
      rw [List.getElem?_eq_getElem h2]
      have h3 : z.length - 1 - i < z.cps.size := h2
      simp [Array.getD, h3]
    · have h1 : (List.range z.length)[i]? = none := List.getElem?_eq_none_iff.mpr (by rw [List.length_range]; omega)
      have h2 : z.cps.toList.reverse[i]? = none := List.getElem?_eq_none_iff.mpr (by rw [List.length_reverse]; omega)
      rw [h1, h2]
      rfl
  rw [e2] at e
  generalize PySem.Txt.sliceBy z none none (-1, u) = y at e
  unfold revS
  rw [← e]
/-- text[::-1] -/
def tRevS (te : TE) : TE := fun σ H Q => te σ H fun x H1 => ∃ z, x = .str z ∧ z.length ≤ sizeLine ∧ Q (.str (revS z)) H1
theorem pe_revS {e : Expr} {te : TE} {k : Nat} {p1 p2 p3 pos : Pos} (he : PE X e te) : PE X (.Subscript e (.Slice none none (some (.UnaryOp .USub (.Constant (.int 1) k p1) p2)) p3) pos) (tRevS te) := by
  refine ⟨fun pins s σ H Q I h => ?_⟩
  refine Subscript_ (thn (he.run pins s σ H _ I h) fun v s1 ⟨x, H1, I1, r1, z, ex, hz, q⟩ => ?_)
  subst ex
  obtain ⟨t, rfl⟩ := r1
  have hst : PO X (some (.UnaryOp .USub (.Constant (.int 1) k p1) p2)) (tPart (tUn (rU fun i => .int (-i)) (tC (.int 1)))) := po_some (pe_un un_neg pe_int)
  refine wpAny_Slice (thn (po_none.run pins s1 σ H1 (fun o H2 => o = none ∧ H2 = H1) I1 ⟨rfl, rfl⟩) fun vl s2 ⟨l, H2, I2, pl, el, e2⟩ => ?_)
  subst el e2
  refine thn (po_none.run pins s2 σ H2 (fun o H3 => o = none ∧ H3 = H2) I2 ⟨rfl, rfl⟩) fun vu s3 ⟨u, H3, I3, pu, eu, e3⟩ => ?_
  subst eu e3
  refine thn (hst.run pins s3 σ H3 (fun o H4 => o = some (-1) ∧ H4 = H3) I3 ⟨1, rfl, -1, rfl, rfl, rfl⟩) fun vs s4 ⟨o, H4, I4, ps, eo, e4⟩ => ?_
  subst eo e4
  obtain ⟨l, rfl, hl⟩ := IsPart.raw pl
  obtain ⟨u, rfl, hu⟩ := IsPart.raw pu
  obtain ⟨y, rfl, hy⟩ := IsPart.raw ps
  have I5 : Inv X pins σ H4 { s4 with heap := s4.heap.push { cls := .type "slice", data := .fields #[partValue l, partValue u, partValue y] } } := I4.kept (t' := s4.toks) fun b ob q => Heap.get?_push_of_some _ q
  obtain rfl : l = none := by
    cases l with
    | none => rfl
    | some p => cases hl
  obtain rfl : u = none := by
    cases u with
    | none => rfl
    | some p => cases hu
  obtain ⟨ty, rfl⟩ : ∃ ty, y = some (-1, ty) := by
    cases y with
    | none => cases hy
    | some p =>
      obtain ⟨a, b⟩ := p
      cases hy
      exact ⟨b, rfl⟩
  show wpAny (model X.prog X.w) X.A (subscriptTail e (.Slice none none (some (.UnaryOp .USub (.Constant (.int 1) k p1) p2)) p3) (.str z t) (.ref s4.heap.objs.size)) (EP X pins σ Q) X.xe { s4 with heap := s4.heap.push { cls := .type "slice", data := .fields #[.none, .none, .int (-1) ty] } }
  refine tail_any (ops := [.ref s4.heap.objs.size, .str z t]) (typeIs_str _ _ _) F.slot_str_getitem.lookup ?_ (by with_unfolding_all rfl)
  refine wpAny_getItem_str_slice (l := none) (u := none) (st := some (-1, ty)) ⟨_, Heap.get?_push_size _ rfl, rfl, rfl⟩ rfl ?_
  refine post_val_or_str ⟨Nat.le_trans (PySem.Txt.sliceBy_le z none none (-1, ty) (show (-1 : Int) ≠ 0 by decide)) hz, fun t' c => ?_⟩
  refine ⟨.str (revS z), H4, I5.tok c, ⟨t', ?_⟩, q⟩
  rw [← rev_slice z ty]
  rfl
end
end SWL
set_option Elab.async false
set_option linter.all false
set_option maxRecDepth 100000
set_option maxHeartbeats 4000000
namespace SWL
open PySem PySem.Spec PyProof.Rows L2 LamX
/-! set(v): what the filling of the new set does is all that is asked -/
/-- the empty set, as it is made -/
def set0 (w : World) : Obj := { cls := .type "set", dict := none, data := .set #[] 0 (.fresh 0 0 (!w.params.followText "set-order")) }
section
variable {P : Program} {w : World} {A : Around} {E : Value → Shared → Prop} {s : Shared}
theorem set_by {v : Value} {Q : Value → Shared → Prop}
    (fill : ∀ (A' : Around) (E' : Value → Shared → Prop), A'.handled = A.handled → A'.units ≤ A.units + 3 → wpAny (model P w) A' (Builtin.Frozenset.updateFrom "set.__init__" s.heap.objs.size v) (fun _ s₂ => Q (.ref s.heap.objs.size) s₂) E' { s with heap := s.heap.push (set0 w) }) :
    wpAny (model P w) A (call (.type "set") [v]) Q E s := by
  obtain ⟨c, tl, hmro⟩ := F.called_set.mro
  have a1 := F.called_set.made
  have a2 := F.called_set.sub
  have a3 := F.called_set.notType
  have a4 := F.called_set.canCreate
  have a5 := F.typeCall_set_1 v
  refine wpAny_call (codeAny_of_tree ?_)
  refine wpAny_pure ⟨Code.quiet_builtin _ (by decide +kernel), codeAny_builtin F.entry_type_call ?_⟩
  rw [Around.under_plain (weight_type_call_type "set" [v] []) rfl]
  repeat (any_goals (first | assumption | wp_step))
  refine codeAny_mono (code_set_led1 v (E := E) (Q₁ := fun obj s₁ => obj = .ref s.heap.objs.size ∧ s₁ = { s with heap := s.heap.push (set0 w) }) ⟨rfl, rfl⟩) fun r s₁ hr => ?_
  match r, hr with
  | .error e, hr => exact hr
  | .ok (.ret obj), hr =>
    obtain ⟨rfl, rfl⟩ := hr
    have hT : Shared.TypeIs { s with heap := s.heap.push (set0 w) } (.ref s.heap.objs.size) "set" := ⟨_, Heap.get?_push_size _ rfl, rfl⟩
    have hS : (s.heap.push (set0 w)).get? s.heap.objs.size = some (set0 w) := Heap.get?_push_size _ rfl
    have b1 := F.called_set.init.lookup
    have b2 := F.called_set.init.bind (.ref s.heap.objs.size)
    repeat (any_goals (first | assumption | wp_step))
    refine codeAny_mono (codeAny_call_builtin (R := wants (fun r s₂ => r = .none ∧ Q (.ref s.heap.objs.size) s₂) E) F.called_set.init.plain F.entry_set_init (check_set_init_1 hT ?_)) fun r₂ s₂ hr₂ => ?_
    · unfold Builtin.«set.__init__» noKeywords
      generalize Builtin.Frozenset.updateFrom = UF at fill ⊢
      wp_walk
      exact wpAny_mono (fill A.in1.in1 _ rfl (by show A.units + 1 + 1 ≤ _; omega)) (fun _ _ z => wpAny_pure ⟨rfl, z⟩) fun _ _ z => z
    · match r₂, hr₂ with
      | .error e, hr₂ => exact hr₂
      | .ok (.ret r), hr₂ =>
        obtain ⟨rfl, hq⟩ := hr₂
        repeat (any_goals (first | assumption | wp_step))
      | .ok (.next), hr₂ => exact hr₂.elim
      | .ok (.brk), hr₂ => exact hr₂.elim
      | .ok (.cont), hr₂ => exact hr₂.elim
  | .ok (.next), hr => exact hr.elim
  | .ok (.brk), hr => exact hr.elim
  | .ok (.cont), hr => exact hr.elim
/-- the filling, one thing behind the other: J i says what the set is when i things are put in -/
theorem fill_loop {I : Addr} {fp wr : List Addr} {G : Array GenState → Array GenState → Prop} {n : Nat} {Pv : Nat → Value → Prop} {St : Nat → Shared → Prop} {R : Result → Shared → Prop} {D : Addr} (W : WalksS P w A.in1 I fp wr G n Pv St) (away : D ∉ fp) (J : Nat → Heap → Prop)
    (stay : ∀ i h h', J i h → (∀ b o, b ∉ wr → h.get? b = some o → h'.get? b = some o) → J i h')
    (put : ∀ i v (s0 : Shared) (Q : Bool → Shared → Prop) (E' : Value → Shared → Prop), i < n → Pv i v → J i s0.heap → (∀ c h' tk, s0.toks ≤ tk → Heap.SameBut D s0.heap h' → J (i + 1) h' → Q c { s0 with heap := h', toks := tk }) → wpAny (model P w) A.in1 (setAdd D v) Q E' s0) :
    ∀ (m i : Nat) (s0 : Shared), i + m = n → St i s0 → J i s0.heap → (∀ s', Moved (D :: wr) G s0 s' → J n s'.heap → R (.ok (.ret .none)) s') → codeAny (model P w) A (.builtin "set.update.loop" ⟨[.ref D, .ref I], []⟩) R s0 := by
  have dw : D ∉ wr := fun z => away (W.sub _ z)
  intro m
  induction m with
  | zero =>
    intro i s0 e st j fin
    obtain rfl : i = n := e
    refine codeAny_builtin F.entry_set_update_loop ?_
    rw [Around.under_plainId F.plain_set_update_loop _]
    refine wpAny_bind (m := pyNext (.ref I)) (W.done s0 _ _ st fun s' mv => ?_)
    exact wpAny_pure (fin s' (mv.mono fun b hb => List.mem_cons_of_mem _ hb) (stay _ _ _ j fun b o nb e' => mv.heap b o nb e'))
  | succ m ih =>
    intro i s0 e st j fin
    have lt : i < n := by omega
    refine codeAny_builtin F.entry_set_update_loop ?_
    rw [Around.under_plainId F.plain_set_update_loop _]
    refine wpAny_bind (m := pyNext (.ref I)) (W.item i s0 _ _ lt st fun v s1 pv st1 mv => ?_)
    have j1 := stay _ _ _ j fun b o nb e' => mv.heap b o nb e'
    refine wpAny_bind (m := holding [v] (setAdd D v)) (wpAny_holding (put i v s1 _ _ lt pv j1 fun c h' tk htk sb j2 => ?_))
    refine wpAny_pure ⟨plainId_quiet F.plain_set_update_loop _, ih (i + 1) _ (by omega) (W.frame _ s1 _ _ st1 htk fun b hb o e' => ?_) j2 fun s2 mv2 j3 => ?_⟩
    · exact (sb.2 b fun z => away (z ▸ hb)).trans e'
    · refine fin s2 (Moved.trans W.gtrans ((mv.mono fun b hb => List.mem_cons_of_mem D hb).then_heap htk fun b o nb e' => ?_) mv2) j3
      exact (sb.2 b fun z => nb (z ▸ List.mem_cons_self)).trans e'
/-! sets of texts -/
def txOf (e : Int × Value) : Str := match e.2 with
  | .str z _ => z
  | _ => ""
def IsTx (P : Program) (w : World) (e : Int × Value) : Prop := ∃ z tk, e = ((strKind P w).hash z, Value.str z tk)
structure TxRaw (P : Program) (w : World) (L : List Str) (es : Array (Int × Value)) (t : SetTable) : Prop where
  each : ∀ e ∈ es.toList, IsTx P w e
  perm : (es.toList.map txOf).Perm L
  nd : L.Nodup
  few : L.length < scanBound
  fit : t.fits es.size = true
  ris : Ris t.place.toList
  led : w.params.followText "set-order" = true ∨ t.led = true
def TxSet (P : Program) (w : World) (h : Heap) (a : Addr) (L : List Str) : Prop := ∃ o es ep t, h.get? a = some o ∧ o.ExactSet ∧ o.data = .set es ep t ∧ TxRaw P w L es t
theorem TxSet.at {h h' : Heap} {a : Addr} {L : List Str} (x : TxSet P w h a L) (k : ∀ o, h.get? a = some o → h'.get? a = some o) : TxSet P w h' a L := by
  obtain ⟨o, es, ep, t, ho, r⟩ := x
  exact ⟨o, es, ep, t, k o ho, r⟩
theorem TxSet.new {h : Heap} {a : Addr} (ho : h.get? a = some (set0 w)) : TxSet P w h a [] := by
  refine ⟨_, #[], 0, _, ho, ⟨rfl, rfl, rfl⟩, rfl, ⟨fun e he => by simp at he, List.Perm.refl _, List.nodup_nil, by decide, rfl, List.Pairwise.nil, ?_⟩⟩
  cases c : w.params.followText "set-order" with
  | true => exact .inl rfl
  | false => exact .inr rfl
theorem tx_elems {es : List (Int × Value)} (h : ∀ e ∈ es, IsTx P w e) : ElemsOf (strKind P w) es := fun e he => by
  obtain ⟨z, tk, rfl⟩ := h e he
  exact ⟨⟨z, strKind_is P w z tk, rfl⟩, rfl⟩
theorem tx_is {e : Int × Value} (h : IsTx P w e) (z : Str) : (strKind P w).is z e.2 = true ↔ txOf e = z := by
  obtain ⟨y, tk, rfl⟩ := h
  constructor
  · intro q
    obtain ⟨u, e⟩ := Value.isStrOf_shape (show Value.isStrOf z (.str y tk) = true from q)
    cases e
    rfl
  · intro q
    cases q
    exact strKind_is P w _ tk
theorem tx_perm {L : List Str} {es es' : Array (Int × Value)} {t t' : SetTable} (r : TxRaw P w L es t) (p : es'.toList.Perm es.toList) (f : t'.fits es'.size = true) (u : Ris t'.place.toList) (l : t'.led = t.led) : TxRaw P w L es' t' :=
  ⟨fun e he => r.each e (p.mem_iff.mp he), (p.map txOf).trans r.perm, r.nd, r.few, f, u, r.led.imp id fun z => l.trans z⟩
theorem tx_size {L : List Str} {es : Array (Int × Value)} {t : SetTable} (r : TxRaw P w L es t) : es.size = L.length := by
  have := r.perm.length_eq
  rw [List.length_map, Array.length_toList] at this
  exact this
/-- what is stored when a text is new -/
theorem tx_tail {gw : Bool → Sem Unit} (quiet : ∀ (b : Bool) (s₁ : Shared) (Q' : Unit → Shared → Prop), Q' () s₁ → wpAny (model P w) A (gw b) Q' E s₁) {a : Addr} {o : Obj} {es es1 : Array (Int × Value)} {ep : Nat} {t t2 : SetTable} {L : List Str} {b : Bool} {Q : Option Bool → Shared → Prop} (ho : s.heap.get? a = some o) (hx : o.ExactSet) (hd : o.data = .set es ep t) (r : TxRaw P w L es1 t2)
    (fin : ∀ h', Heap.SameBut a s.heap h' → TxSet P w h' a L → Q (some true) { s with heap := h' }) :
    wpAny (model P w) A (storeSet a es1 t2 >>= fun _ => if (!b && t2.tooFull) = true then gw (relayAll t2 es1 (SetTable.grown es1.size)).2.2 >>= fun _ => storeSet a (relayAll t2 es1 (SetTable.grown es1.size)).1 (relayAll t2 es1 (SetTable.grown es1.size)).2.1 >>= fun _ => pure (some true) else pure (some true)) Q E s := by
  have few1 : es1.size < scanBound := by rw [tx_size r]; exact r.few
  refine wpAny_bind (wpAny_storeSet_of ho hd ?_ (fits_of_scanBound few1))
  have o1 := store_at (es' := es1) (t' := t2) ho hd
  have same1 := Heap.SameBut.update s.heap a (Obj.putSet es1 t2)
  by_cases c : (!b && t2.tooFull) = true
  · refine wp_if_pos c ?_
    have q := tx_perm r (relayAll_perm t2 es1 (SetTable.grown es1.size)) (relayAll_fits t2 es1 (SetTable.grown es1.size)) (relayAll_ris t2 es1 (SetTable.grown es1.size)) (relayAll_led t2 es1 (SetTable.grown es1.size))
    generalize relayAll t2 es1 (SetTable.grown es1.size) = Z at q ⊢
    obtain ⟨es2, t3, gave⟩ := Z
    have few2 : es2.size < scanBound := by rw [tx_size q]; exact q.few
    dsimp only
    refine wpAny_bind (quiet _ _ _ ?_)
    refine wpAny_bind (wpAny_storeSet_of o1 rfl ?_ (fits_of_scanBound few2))
    have o2 := store_at (es' := es2) (t' := t3) o1 rfl
    exact wpAny_pure (fin _ (same1.trans (Heap.SameBut.update _ a _)) ⟨_, es2, _, t3, o2, hx, rfl, q⟩)
  · refine wp_if_neg c ?_
    exact wpAny_pure (fin _ same1 ⟨_, es1, _, t2, o1, hx, rfl, r⟩)
theorem tx_add {a : Addr} {L : List Str} {z : Str} {tk : Tok} {Q : Bool → Shared → Prop} (x : TxSet P w s.heap a L) (room : L.length + 1 < scanBound) (old : z ∈ L → Q false s)
    (new : z ∉ L → ∀ h', Heap.SameBut a s.heap h' → TxSet P w h' a (z :: L) → Q true { s with heap := h' }) : wpAny (model P w) A (setAddHashed a (.str z tk) ((strKind P w).hash z)) Q E s := by
  obtain ⟨o, es, ep, t, ho, hx, hd, r⟩ := x
  have few1 : es.size < scanBound := by rw [tx_size r]; exact r.few
  have el := tx_elems r.each
  have isz := strKind_is P w z tk
  have mem : z ∈ L ↔ ∃ e ∈ es.toList, (strKind P w).is z e.2 = true := by
    rw [← r.perm.mem_iff, List.mem_map]
    exact ⟨fun ⟨e, h1, h2⟩ => ⟨e, h1, (tx_is (r.each e h1) z).mpr h2⟩, fun ⟨e, h1, h2⟩ => ⟨e, h1, (tx_is (r.each e h1) z).mp h2⟩⟩
  unfold setAddHashed setAddHashedIn
  refine wpAny_holding (wpAny_bind (wpAny_setState_of ho hd r.fit ?_))
  dsimp only
  rw [byScan_of (x := .str z tk) rfl few1 el]
  simp only [↓reduceIte]
  unfold setAddByScan
  refine wpAny_bind ?_
  refine wpAny_bind (wpAny_rule (wpAny_bind (wpAny_setScan_of isz ho hd r.fit el ?_)))
  cases c : List.findIdx? (fun e => (strKind P w).is z e.2) es.toList with
  | some j =>
    obtain ⟨j1, j2, _⟩ := List.findIdx?_eq_some_iff_getElem.mp c
    exact wpAny_pure (wpAny_pure (old (mem.mpr ⟨_, List.getElem_mem j1, j2⟩)))
  | none =>
    have nz : z ∉ L := fun q => by
      obtain ⟨e, h1, h2⟩ := mem.mp q
      have := List.findIdx?_eq_none_iff.mp c e h1
      rw [h2] at this
      cases this
    have p := layNew_perm t es ((strKind P w).hash z) (.str z tk)
    have f := layNew_fits t es ((strKind P w).hash z) (.str z tk)
    have u := layNew_ris t es ((strKind P w).hash z) (.str z tk) r.ris
    have l := layNew_led t es ((strKind P w).hash z) (.str z tk)
    generalize layNew t es ((strKind P w).hash z) (.str z tk) = Z at p f u l ⊢
    obtain ⟨es1, t1, dm, gave⟩ := Z
    dsimp only at p f u l ⊢
    rw [Array.toList_push] at p
    have p2 : es1.toList.Perm (((strKind P w).hash z, Value.str z tk) :: es.toList) := p.trans (List.perm_append_singleton _ _)
    have raw : TxRaw P w (z :: L) es1 t1 := ⟨fun e he => by
      rcases List.mem_cons.mp (p2.mem_iff.mp he) with h | h
      · exact ⟨z, tk, h⟩
      · exact r.each e h, (p2.map txOf).trans (r.perm.cons z), List.nodup_cons.mpr ⟨nz, r.nd⟩, room, f, u, r.led.imp id fun z => l.trans z⟩
    have raw2 : TxRaw P w (z :: L) es1 { t1 with plain := false } := ⟨raw.each, raw.perm, raw.nd, raw.few, SetTable.fits_plain_off f, u, raw.led⟩
    have fin : ∀ h', Heap.SameBut a s.heap h' → TxSet P w h' a (z :: L) → Q true { s with heap := h' } := new nz
    refine wpAny_bind ?_
    have hushed : ∀ (b : Bool) (s₁ : Shared) (Q' : Unit → Shared → Prop), Q' () s₁ → wpAny (model P w) A (match b with | true => rule "set.scan.the-table-gave-way" | false => pure ()) Q' E s₁ := fun b s₁ Q' q => by
      cases b
      · exact wpAny_pure q
      · exact wpAny_rule q
    refine hushed gave _ _ ?_
    by_cases pl : t1.plain = true
    · refine wp_if_pos pl (wpAny_bind ?_)
      rw [hashByValue_scannable 8 (x := Value.str z tk) rfl]
      refine wpAny_pure (tx_tail hushed ho hx hd (L := z :: L) ?_ fun h' sb q => wpAny_pure (fin h' sb q))
      split
      · exact raw
      · exact raw2
    · refine wp_if_neg pl (wpAny_bind (wpAny_pure (tx_tail hushed ho hx hd (L := z :: L) ?_ fun h' sb q => wpAny_pure (fin h' sb q))))
      exact raw
end
end SWL
set_option Elab.async false
set_option linter.all false
set_option maxRecDepth 100000
set_option maxHeartbeats 4000000
namespace SWL
open PySem PySem.Spec PyProof.Rows L2 LamX
theorem sub_str_set : isSubtype (.type "str") (.type "set") = pure false := by rw [isSubtype_type]; kernel_rfl
theorem sub_str_frz : isSubtype (.type "str") (.type "frozenset") = pure false := by rw [isSubtype_type]; kernel_rfl
section
variable {P : Program} {w : World} {A : Around} {E : Value → Shared → Prop} {s : Shared}
/-- the signs of a text, each once -/
def SignsOf (cs : List Nat) (L : List Str) : Prop := ∀ x, x ∈ L ↔ ∃ c ∈ cs, x = (⟨#[c]⟩ : Str)
theorem tx_fill {z : Str} {t : Tok} {Q : Value → Shared → Prop} (hh : A.handled = none) (few : z.length + 1 < scanBound)
    (q : ∀ (h' : Heap) (tk : Nat) (L : List Str), TxSet P w h' s.heap.objs.size L → SignsOf z.cps.toList L → (∀ b o, s.heap.get? b = some o → h'.get? b = some o) → Q (.ref s.heap.objs.size) { s with heap := h', toks := tk }) :
    wpAny (model P w) A (call (.type "set") [.str z t]) Q E s := by
  refine set_by fun A' E' hA _ => ?_
  have hh' : A'.handled = none := hA.trans hh
  have hS : (s.heap.push (set0 w)).get? s.heap.objs.size = some (set0 w) := Heap.get?_push_size _ rfl
  have n1 := sub_str_set
  have n2 := sub_str_frz
  unfold Builtin.Frozenset.updateFrom
  generalize hPI : pyIter = PI
  wp_walk
  subst hPI
  refine wpAny_pyIter_str fun o St W st0 => ?_
  refine wpAny_bind (wpAny_runValue ?_)
  have sz1 : (s.heap.push (set0 w)).objs.size = s.heap.objs.size + 1 := size_push' _ _
  have away : s.heap.objs.size ∉ [(s.heap.push (set0 w)).objs.size] := fun h => by
    have := List.mem_singleton.mp h
    omega
  have up : ∀ b u, s.heap.get? b = some u → ((s.heap.push (set0 w)).push o).get? b = some u := fun b u e => Heap.get?_push_of_some _ (Heap.get?_push_of_some _ e)
  have lt : ∀ b u, s.heap.get? b = some u → b ≠ s.heap.objs.size ∧ b ≠ (s.heap.push (set0 w)).objs.size := fun b u e => by
    have h := Heap.lt_size e
    exact ⟨Nat.ne_of_lt h, Nat.ne_of_lt (by rw [sz1]; exact Nat.lt_succ_of_lt h)⟩
  refine fill_loop (P := P) (w := w) (A := A') (n := z.cps.size) (W A'.in1 hh').toS away (fun i h => ∃ L, TxSet P w h s.heap.objs.size L ∧ SignsOf (z.cps.toList.take i) L ∧ L.length ≤ i)
    (fun i h h' ⟨L, x, g, l⟩ k => ⟨L, x.at fun u e => k _ u away e, g, l⟩) ?_ z.cps.size 0 _ (by omega) st0 ⟨[], .new (Heap.get?_push_of_some _ hS), fun x => by simp, Nat.le_refl _⟩ ?_
  · rintro i v s0 Q' E2 hi ⟨c, u, hc, rfl⟩ ⟨L, x, g, l⟩ q'
    have hc' : z.cps.toList[i]? = some c := by rw [Array.getElem?_toList]; exact hc
    have ht : z.cps.toList.take (i + 1) = z.cps.toList.take i ++ [c] := take_snoc hc'
    have zl : z.length = z.cps.size := rfl
    unfold setAdd
    refine wpAny_holding (wpAny_bind ((PySem.strKind P w).pyHash (strKind_is P w ⟨#[c]⟩ u) ?_))
    refine tx_add (s := { s0 with toks := s0.toks + 1 }) x (by omega) (fun m => ?_) fun nm h' sb y => ?_
    · refine q' false s0.heap (s0.toks + 1) (Nat.le_succ _) (Heap.SameBut.refl _ _) ⟨L, x, fun y => ?_, by omega⟩
      rw [g y, ht]
      constructor
      · rintro ⟨d, hd, e⟩
        exact ⟨d, List.mem_append_left _ hd, e⟩
      · rintro ⟨d, hd, e⟩
        rcases List.mem_append.mp hd with h | h
        · exact ⟨d, h, e⟩
        · rw [List.mem_singleton.mp h] at e
          rw [e]
          exact (g _).mp m
    · refine q' true h' (s0.toks + 1) (Nat.le_succ _) sb ⟨_, y, fun y => ?_, by rw [List.length_cons]; omega⟩
      rw [List.mem_cons, g y, ht]
      constructor
      · rintro (e | ⟨d, hd, e⟩)
        · exact ⟨c, by simp, e⟩
        · exact ⟨d, List.mem_append_left _ hd, e⟩
      · rintro ⟨d, hd, e⟩
        rcases List.mem_append.mp hd with h | h
        · exact .inr ⟨d, h, e⟩
        · rw [List.mem_singleton.mp h] at e
          exact .inl e
  · rintro s' mv ⟨L, x, g, l⟩
    obtain ⟨h', g', d', tk', os'⟩ := s'
    obtain rfl : g' = s.gens := mv.gens
    obtain rfl : d' = s.drawn := mv.drawn
    obtain rfl : os' = s.os := mv.os
    have et : z.cps.toList.take z.cps.size = z.cps.toList := List.take_of_length_le (by rw [Array.length_toList]; exact Nat.le_refl _)
    rw [et] at g
    refine wpAny_pure ?_
    exact q h' tk' L x g fun b u e => mv.heap b u (fun hm => by
      rcases List.mem_cons.mp hm with h | h
      · exact (lt b u e).1 h
      · exact (lt b u e).2 (List.mem_singleton.mp h)) (up b u e)
/-- one-sign texts in order, each once -/
theorem signs_rise : ∀ cs : List Nat, sortedS (cs.map fun c => (⟨#[c]⟩ : Str)) = true → (cs.map fun c => (⟨#[c]⟩ : Str)).Nodup → cs.Pairwise (· < ·) := by
  have one : ∀ c d : Nat, ltCps [c] [d] = decide (c < d) := fun c d => by
    unfold ltCps
    cases h : decide (c < d)
    · show (false || (c == d && ltCps [] [])) = false
      simp [ltCps]
    · rfl
  have gen : ∀ (cs : List Nat) (p : Nat), risingS ⟨#[p]⟩ (cs.map fun c => (⟨#[c]⟩ : Str)) = true → (⟨#[p]⟩ : Str) ∉ (cs.map fun c => (⟨#[c]⟩ : Str)) → (cs.map fun c => (⟨#[c]⟩ : Str)).Nodup → (∀ c ∈ cs, p < c) ∧ cs.Pairwise (· < ·) := by
    intro cs
    induction cs with
    | nil => intro p _ _ _; exact ⟨fun c hc => (by cases hc), .nil⟩
    | cons c cs ih =>
      intro p h np nd
      rw [List.map_cons] at h np nd
      unfold risingS at h
      rw [Bool.and_eq_true] at h
      obtain ⟨h1, h2⟩ := h
      obtain ⟨nd1, nd2⟩ := List.nodup_cons.mp nd
      obtain ⟨a1, a2⟩ := ih c h2 nd1 nd2
      have pc : p < c := by
        have e : (!ltCps [c] [p]) = true := h1
        rw [one] at e
        have ne : p ≠ c := fun z => np (by rw [z]; exact List.mem_cons_self)
        simp at e
        omega
      refine ⟨fun d hd => ?_, List.pairwise_cons.mpr ⟨a1, a2⟩⟩
      rcases List.mem_cons.mp hd with rfl | hd
      · exact pc
      · exact Nat.lt_trans pc (a1 d hd)
  intro cs h nd
  cases cs with
  | nil => exact .nil
  | cons c cs =>
    obtain ⟨nd1, nd2⟩ := List.nodup_cons.mp nd
    obtain ⟨a1, a2⟩ := gen cs c h nd1 nd2
    exact List.pairwise_cons.mpr ⟨a1, a2⟩
end
theorem len_within {α : Type} [DecidableEq α] : ∀ (l D : List α), l.Nodup → (∀ x ∈ l, x ∈ D) → l.length ≤ D.length
  | [], _, _, _ => Nat.zero_le _
  | x :: l, D, nd, h => by
    obtain ⟨h1, h2⟩ := List.nodup_cons.mp nd
    have hx := h x List.mem_cons_self
    have := len_within l (D.erase x) h2 fun y hy => (List.mem_erase_of_ne fun e : y = x => h1 (e ▸ hy)).mpr (h y (List.mem_cons_of_mem _ hy))
    rw [List.length_erase_of_mem hx] at this
    have := List.length_pos_of_mem hx
    rw [List.length_cons]
    omega
def TxO (P : Program) (w : World) (a : Addr) (L : List Str) : HO := .ext fun h => TxSet P w h a L
theorem txO_new {P : Program} {w : World} {H : Hp} {h : Heap} {a : Addr} {L : List Str} (x : TxSet P w h a L) : ObjOk P w H h a (TxO P w a L) :=
  ⟨x, (by obtain ⟨o, _, _, _, ho, _⟩ := x; exact ⟨o, ho⟩), fun _ _ y k => TxSet.at y k⟩
section
variable {X : Cx}
/-- set(text) -/
def rSetTx (P : Program) (w : World) : List V → Hp → VK → Prop := fun xs H Q => ∃ z, xs = [.str z] ∧ z.length + 1 < scanBound ∧ ∀ p L, H p = none → L.Nodup → SignsOf z.cps.toList L → Q (.ref p) (upd H p (TxO P w p L))
theorem cr_setTx (hc : X.calm = true) : CallR X (.type "set") (rSetTx X.prog X.w) := by
  intro pins s σ H xs us Q I r h
  obtain ⟨z, rfl, few, q⟩ := h
  cases r with
  | cons r1 rs =>
    cases rs
    obtain ⟨t, rfl⟩ := r1
    refine tx_fill (I.ok.hd hc) few fun h' tk L x g k => ?_
    have nd : L.Nodup := by obtain ⟨_, _, _, _, _, _, _, r⟩ := x; exact r.nd
    exact ⟨.ref s.heap.objs.size, _, I.laid (t' := tk) k (Nat.le_refl _) (txO_new x), rfl, q _ L (I.hok.fresh (Nat.le_refl _)) nd g⟩
/-- sorted(set(text)) -/
def rSortTx (P : Program) (w : World) : List V → Hp → VK → Prop := fun xs H Q => ∃ a zs L, xs = [.ref a] ∧ H a = some (TxO P w a L) ∧ SignsOf zs L ∧ L.length < 64 ∧
  ∀ (cs : List Nat) p, cs.Pairwise (· < ·) → (∀ c, c ∈ cs ↔ c ∈ zs) → H p = none → Q (.ref p) (upd H p (.lst (cs.map fun c => .str ⟨#[c]⟩)))
def strV (v : Value) : Str := match v with
  | .str z _ => z
  | _ => ""
theorem strs_are : ∀ {vs : List Value}, (∀ v ∈ vs, ∃ z tk, v = Value.str z tk) → StrsAre vs (vs.map strV)
  | [], _ => .nil
  | v :: vs, h => by
    obtain ⟨z, tk, rfl⟩ := h v List.mem_cons_self
    exact .cons z tk (strs_are fun y hy => h y (List.mem_cons_of_mem _ hy))
theorem cr_sortedTx (hc : X.calm = true) : CallR X (.builtin "sorted") (rSortTx X.prog X.w) := by
  intro pins s σ H xs us Q I r h
  obtain ⟨a, zs, L, rfl, ha, g, few, q⟩ := h
  rw [Vals.ref1 r]
  obtain ⟨o, es, ep, t, ho, hx, hd, raw⟩ := (show ObjOk X.prog X.w H s.heap a (TxO X.prog X.w a L) from I.hok _ _ ha).1
  have n1 : es.size = L.length := tx_size raw
  refine Calls.call_function_entry kind_sorted plain_sorted entry_sorted (args_sorted1 _) ?_
  unfold Builtin.«sorted»
  refine wpAny_bind (m := checkCount "sorted" 1 1 _) (wpAny_pure ?_)
  refine wpAny_bind (collect_set (A := X.A.in1) (I.ok.hd hc) ⟨o, ho, hx.1, hd⟩ raw.fit (by rw [n1]; exact raw.few) raw.ris raw.led fun s1 vs up sz g1 o1 pm => ?_)
  have each : ∀ v ∈ vs, ∃ z tk, v = Value.str z tk := fun v hv => by
    obtain ⟨e, he, q⟩ := List.mem_map.mp (pm.mem_iff.mp hv)
    obtain ⟨z, tk, rfl⟩ := raw.each e he
    exact ⟨z, tk, q.symm⟩
  have hS := strs_are each
  have p1 : (vs.map strV).Perm L := by
    have e := pm.map strV
    rw [List.map_map] at e
    exact e.trans raw.perm
  have n2 : vs.length = L.length := by rw [← p1.length_eq, List.length_map]
  refine wpAny_bind (wpAny_newList ?_ (by rw [n2, sizeLine_eq]; omega))
  have at1 : (s1.heap.push (seqObj "list" vs.toArray 0)).get? s1.heap.objs.size = some (seqObj "list" vs.toArray 0) := Heap.get?_push_size _ rfl
  refine wpAny_bind (wpAny_holding (wpAny_call_entry slot_list_sort ⟨_, at1, rfl⟩ entry_list_sort (list_sort_treeK strKind_oneLt at1 hS.keysOf (fun v₁ v₂ rest e => keyKind_strs (by rw [← e]; exact hS)) (by rw [n2]; exact few) fun st hp hs => ?_) (args_list_sort _)))
  obtain ⟨ys, b1, b2, b3⟩ := sorted_out_str hS hp hs
  obtain ⟨c, at2⟩ := sortedHeap_at (vs := vs) (out := (arrOf st).map (·.2)) at1
  have p2 : ys.Perm L := b2.trans p1
  obtain ⟨cs, rfl⟩ : ∃ cs : List Nat, ys = cs.map fun c => (⟨#[c]⟩ : Str) := by
    have : ∀ l : List Str, (∀ y ∈ l, ∃ c : Nat, y = (⟨#[c]⟩ : Str)) → ∃ cs : List Nat, l = cs.map fun c => (⟨#[c]⟩ : Str) := by
      intro l
      induction l with
      | nil => intro _; exact ⟨[], rfl⟩
      | cons y l ih =>
        intro h
        obtain ⟨c, rfl⟩ := h y List.mem_cons_self
        obtain ⟨cs, rfl⟩ := ih fun z hz => h z (List.mem_cons_of_mem _ hz)
        exact ⟨c :: cs, rfl⟩
    exact this ys fun y hy => by
      obtain ⟨c, _, e⟩ := (g y).mp (p2.mem_iff.mp hy)
      exact ⟨c, e⟩
  have rise := signs_rise cs b3 (p2.nodup_iff.mpr raw.nd)
  have mem : ∀ c, c ∈ cs ↔ c ∈ zs := fun c => by
    constructor
    · intro hc
      obtain ⟨d, hd, e⟩ := (g _).mp (p2.mem_iff.mp (List.mem_map.mpr ⟨c, hc, rfl⟩))
      cases e
      exact hd
    · intro hc
      obtain ⟨d, hd, e⟩ := List.mem_map.mp (p2.mem_iff.mpr ((g ⟨#[c]⟩).mpr ⟨c, hc, rfl⟩))
      cases e
      exact hd
  have ll : (cs.map fun c => V.str ⟨#[c]⟩).length ≤ sizeLine := by
    have := p2.length_eq
    rw [List.length_map] at this ⊢
    rw [this, sizeLine_eq]
    omega
  have hv : Vals (cs.map fun c => V.str ⟨#[c]⟩) ((arrOf st).map (·.2)).toList := by
    have e := vals_of_strs b1
    rw [List.map_map] at e
    exact e
  have old : ∀ b u, s.heap.get? b = some u → (sortedHeap (s1.heap.push (seqObj "list" vs.toArray 0)) s1.heap.objs.size vs ((arrOf st).map (·.2))).get? b = some u := fun b u e => by
    have h1 := up b u e
    have h2 := Heap.lt_size h1
    exact (sortedHeap_old (Nat.ne_of_lt h2) (by rw [size_push']; exact Nat.lt_succ_of_lt h2)).trans (Heap.get?_push_of_some _ h1)
  have fresh : H s1.heap.objs.size = none := I.hok.fresh sz
  have newO : ObjOk X.prog X.w (upd H s1.heap.objs.size (.lst (cs.map fun c => V.str ⟨#[c]⟩))) (sortedHeap (s1.heap.push (seqObj "list" vs.toArray 0)) s1.heap.objs.size vs ((arrOf st).map (·.2))) s1.heap.objs.size (.lst (cs.map fun c => V.str ⟨#[c]⟩)) := ⟨ll, _, c, hv, at2⟩
  refine ⟨_, rfl, wpAny_pure ⟨_, rfl, .ref s1.heap.objs.size, upd H s1.heap.objs.size (.lst (cs.map fun c => V.str ⟨#[c]⟩)), ?_, rfl, q cs _ rise mem fresh⟩⟩
  refine I.call' (ch := []) o1 (Un.laid old sz fresh) (I.hok.laid old sz newO) ?_ (fun _ z => nomatch z)
  show AllBare s1.gens
  rw [g1]
  exact I.bare
end
end SWL
set_option Elab.async false
set_option linter.all false
set_option maxRecDepth 100000
set_option maxHeartbeats 4000000
namespace SWL
open PySem PySem.Spec PyProof.Rows L2 LamX
/-! dicts whose keys are nested tuples of numbers and texts -/
mutual
inductive NkAt (H : Hp) : V → NestedKey → Prop
  | int (i : Int) : NkAt H (.int i) (.num i)
  | str (z : Str) : NkAt H (.str z) (.text z)
  | tup {a : Addr} {xs : List V} {ks : List NestedKey} : H a = some (.tup xs) → NkAll H xs ks → NkAt H (.ref a) (.tup ks)
inductive NkAll (H : Hp) : List V → List NestedKey → Prop
  | nil : NkAll H [] []
  | cons {x : V} {k : NestedKey} {xs : List V} {ks : List NestedKey} : NkAt H x k → NkAll H xs ks → NkAll H (x :: xs) (k :: ks)
end
mutual
theorem NkAt.keep {H H' : Hp} (g : ∀ b xs, H b = some (.tup xs) → H' b = some (.tup xs)) : ∀ (k : NestedKey) {x : V}, NkAt H x k → NkAt H' x k
  | _, _, .int i => .int i
  | _, _, .str z => .str z
  | .tup ks, _, .tup h t => .tup (g _ _ h) (NkAll.keep g ks t)
theorem NkAll.keep {H H' : Hp} (g : ∀ b xs, H b = some (.tup xs) → H' b = some (.tup xs)) : ∀ (ks : List NestedKey) {xs : List V}, NkAll H xs ks → NkAll H' xs ks
  | _, _, .nil => .nil
  | k :: ks, _, .cons h t => .cons (NkAt.keep g k h) (NkAll.keep g ks t)
end
section
variable {X : Cx} {pins : List (Addr × Obj)} {σ : L2.St} {H : Hp} {s : Shared}
mutual
theorem nk_is (I : Inv X pins σ H s) : ∀ (k : NestedKey) {x : V} {u : Value}, NkAt H x k → RelV x u → NestedIs s.heap k u
  | _, _, _, .int i, r => by obtain ⟨t, rfl⟩ := r; exact .int i t
  | _, _, _, .str z, r => by obtain ⟨t, rfl⟩ := r; exact .text z t
  | .tup ks, _, _, @NkAt.tup _ a xs _ h t, r => by
    cases r
    obtain ⟨_, its, rv, o, ho, hc, n, hd⟩ := (show ObjOk X.prog X.w H s.heap a (.tup xs) from I.hok _ _ h)
    exact .tup ho hc hd (by rw [List.toList_toArray]; exact nk_all I ks t rv)
theorem nk_all (I : Inv X pins σ H s) : ∀ (ks : List NestedKey) {xs : List V} {us : List Value}, NkAll H xs ks → Vals xs us → NestedAll s.heap ks us
  | _, _, _, .nil, r => by cases r; exact .nil
  | k :: ks, _, _, .cons h t, r => by
    cases r with
    | cons r1 r2 => exact .cons (nk_is I k h r1) (nk_all I ks t r2)
end
abbrev NRow := NestedKey × Addr × V
abbrev NRaw := NestedKey × Addr × Value
def RowIs (r : NRow) (x : NRaw) : Prop := r.1 = x.1 ∧ r.2.1 = x.2.1 ∧ RelV r.2.2 x.2.2
def NdRaw (P : Program) (w : World) (a : Addr) (xs : List NRaw) (h : Heap) : Prop := ∃ o es ep, h.get? a = some o ∧ o.ExactDict ∧ o.data = .dict es ep ∧ es.toList = xs.map (entryOfKey (nestedKind P w)) ∧ (xs.map (·.1)).Nodup
def NdAt (P : Program) (w : World) (a : Addr) (rows : List NRow) (h : Heap) : Prop := (a == sysModules) = false ∧ rows.length ≤ sizeLine ∧ ∃ xs, Paired RowIs rows xs ∧ NdRaw P w a xs h
/-- the dict at a, its rows: key, the key's place, value -/
def NDO (P : Program) (w : World) (a : Addr) (rows : List NRow) : HO := .ext fun h => NdAt P w a rows h
theorem nd_new {P : Program} {w : World} {H : Hp} {h : Heap} {a : Addr} {rows : List NRow} (x : NdAt P w a rows h) : ObjOk P w H h a (NDO P w a rows) := by
  refine ⟨x, (by obtain ⟨_, _, _, _, o, _, _, e, _⟩ := x; exact ⟨o, e⟩), fun h1 h2 y k => ?_⟩
  obtain ⟨y1, y2, xs, r, o, es, ep, e, c⟩ := (show NdAt P w a rows h1 from y)
  exact ⟨y1, y2, xs, r, o, es, ep, k _ e, c⟩
def KeysAt (H : Hp) (rows : List NRow) : Prop := ∀ r ∈ rows, NkAt H (.ref r.2.1) r.1 ∧ r.1.depth ≤ 8
theorem nd_dict (I : Inv X pins σ H s) {a : Addr} {rows : List NRow} (e : H a = some (NDO X.prog X.w a rows)) (ks : KeysAt H rows) : (a == sysModules) = false ∧ rows.length ≤ sizeLine ∧ ∃ xs, Paired RowIs rows xs ∧ s.heap.DictOfH (nestedKind X.prog X.w) a xs := by
  obtain ⟨y1, y2, xs, r, o, es, ep, e1, e2, e3, e4, e5⟩ := (show NdAt X.prog X.w a rows s.heap from (I.hok _ _ e).1)
  refine ⟨y1, y2, xs, r, o, es, ep, e1, e2, e3, e4, ?_, e5⟩
  have key : ∀ {rows : List NRow} {xs : List NRaw}, Paired RowIs rows xs → KeysAt H rows → ∀ x ∈ xs, (nestedKind X.prog X.w).is s.heap x.1 x.2.1 := by
    intro rows xs r
    induction r with
    | nil => intro _ x hx; cases hx
    | @cons p q _ _ h _ ih =>
      intro ks x hx
      rcases List.mem_cons.mp hx with rfl | hx
      · obtain ⟨k1, k2⟩ := ks p List.mem_cons_self
        obtain ⟨h1, h2, _⟩ := h
        rw [← h1, ← h2]
        exact ⟨nk_is I _ k1 rfl, k2⟩
      · exact ih (fun r hr => ks r (List.mem_cons_of_mem _ hr)) x hx
  exact key r ks
/-- {} -/
def tDNewN (P : Program) (w : World) : TE := fun _ H Q => ∀ p, H p = none → Q (.ref p) (upd H p (NDO P w p []))
def valN (rows : List NRow) (k : NestedKey) : Option V := (rows.find? fun r => decide (r.1 = k)).map (·.2.2)
theorem val_at {k : NestedKey} : ∀ {rows : List NRow} {xs : List NRaw}, Paired RowIs rows xs → (valN rows k = none ∧ atKey xs k = none) ∨ ∃ v p, valN rows k = some v ∧ atKey xs k = some p ∧ RelV v p.2 := by
  intro rows xs r
  induction r with
  | nil => exact .inl ⟨rfl, rfl⟩
  | @cons p q ps qs h _ ih =>
    obtain ⟨h1, h2, h3⟩ := h
    unfold valN atKey at ih ⊢
    by_cases c : p.1 = k
    · have c2 : q.1 = k := h1.symm.trans c
      rw [List.find?_cons_of_pos (by exact decide_eq_true c), List.find?_cons_of_pos (by exact decide_eq_true c2)]
      exact .inr ⟨p.2.2, q.2, rfl, rfl, h3⟩
    · have c2 : ¬ q.1 = k := fun z => c (h1.trans z)
      rw [List.find?_cons_of_neg (by simpa using c), List.find?_cons_of_neg (by simpa using c2)]
      exact ih
theorem paired_snoc {α β : Type} {R : α → β → Prop} : ∀ {l : List α} {m : List β} {a : α} {b : β}, Paired R l m → R a b → Paired R (l ++ [a]) (m ++ [b])
  | _, _, _, _, .nil, h => .cons h .nil
  | _, _, _, _, .cons r t, h => .cons r (paired_snoc t h)
end
theorem paired_len {α β : Type} {R : α → β → Prop} : ∀ {l : List α} {m : List β}, Paired R l m → l.length = m.length
  | _, _, .nil => rfl
  | _, _, .cons _ t => by rw [List.length_cons, List.length_cons, paired_len t]
theorem nd_empty {P : Program} {w : World} (h : Heap) (hb : sysModules < h.objs.size) : NdAt P w h.objs.size [] (h.push { cls := .type "dict", data := .dict #[] }) :=
  ⟨beq_eq_false_iff_ne.mpr fun z => Nat.ne_of_lt hb z.symm, Nat.zero_le _, [], .nil, _, #[], 0, Heap.get?_push_size _ rfl, ⟨rfl, rfl, rfl⟩, rfl, rfl, List.nodup_nil⟩
def rLenN (P : Program) (w : World) : List V → Hp → VK → Prop := fun xs H Q => ∃ a rows, xs = [.ref a] ∧ H a = some (NDO P w a rows) ∧ KeysAt H rows ∧ Q (.int (rows.length : Nat)) H
/-- what comes of it: the value that is there, or the new one, put in -/
def setdQ (P : Program) (w : World) (Q : VK) (rows : List NRow) (a b : Addr) (k : NestedKey) (z : V) (H : Hp) : Prop := (∀ v, valN rows k = some v → Q v H) ∧ (valN rows k = none → Q z (upd H a (NDO P w a (rows ++ [(k, b, z)]))))
theorem setd_one {P : Program} {w : World} {Q : VK} {rows : List NRow} {a b : Addr} {k : NestedKey} {z : V} {H : Hp} (R : V → Hp → Prop) (h : ∀ v Hx, R v Hx → Q v Hx) (h1 : ∀ v, valN rows k = some v → R v H) (h2 : valN rows k = none → R z (upd H a (NDO P w a (rows ++ [(k, b, z)])))) : setdQ P w Q rows a b k z H :=
  ⟨fun v hv => h _ _ (h1 v hv), fun hn => h _ _ (h2 hn)⟩
/-- d.setdefault(k, x) -/
def tNSetd (P : Program) (w : World) (td ty tx : TE) : TE := fun σ H Q => td σ H fun x H1 => ∃ a, x = .ref a ∧ (∃ rows, H1 a = some (NDO P w a rows)) ∧ ty σ H1 fun y H2 => tx σ H2 fun z H3 =>
  ∃ rows b k, H3 a = some (NDO P w a rows) ∧ KeysAt H3 rows ∧ y = .ref b ∧ NkAt H3 (.ref b) k ∧ k.depth ≤ 8 ∧ rows.length < sizeLine ∧ setdQ P w Q rows a b k z H3
section
variable {X : Cx} {pos : Pos}
theorem pe_dnewN : PE X (.Dict [] [] pos) (tDNewN X.prog X.w) := ⟨fun pins s σ H Q I q =>
  wpAny_Dict_empty ⟨V.ref s.heap.objs.size, _, I.laid (t' := s.toks) (fun b u e => Heap.get?_push_of_some _ e) (Nat.le_refl _) (nd_new (nd_empty s.heap I.big)), rfl, q _ (I.hok.fresh (Nat.le_refl _))⟩⟩
theorem cr_lenN : CallR X (.builtin "len") (rLenN X.prog X.w) := by
  intro pins s σ H xs us Q I r h
  obtain ⟨a, rows, rfl, ha, ks, q⟩ := h
  rw [Vals.ref1 r]
  obtain ⟨lo, z, xs, rel, dd⟩ := nd_dict I ha ks
  have hl := paired_len rel
  refine call_len_dictH lo dd (by rw [← hl]; rw [sizeLine_eq] at z; omega) ?_
  rw [← hl]
  exact ⟨.int (rows.length : Nat), H, I.tok _, ⟨_, rfl⟩, q⟩
theorem pe_dsetdN {o e f : Expr} {td ty tx : TE} {apos cpos : Pos} (hu : X.A.units + 16 < cLine) (ho : PE X o td) (he : PE X e ty) (hf : PE X f tx) (m : M2 X o "setdefault" apos e f cpos) : PE X (.Call (.Attribute o "setdefault" apos) [e, f] [] cpos) (tNSetd X.prog X.w td ty tx) := by
  refine ⟨fun pins s σ H Q I h => ?_⟩
  refine wpAny_Call_method m.base m.few m.line PySem.F.plainAttrs_dict PySem.F.slot_dict_setdefault PySem.F.type_dict_setdefault (thn (ho.run pins s σ H _ I h) fun u s1 ⟨x, H1, I1, rx, a, ex, ⟨rows0, d⟩, q1⟩ => ?_)
  subst ex
  cases rx
  obtain ⟨_, _, _, _, ob, es0, _, g1, g2, _⟩ := (show NdAt X.prog X.w a rows0 s1.heap from (I1.hok _ _ d).1)
  refine ⟨⟨ob, g1, g2.1⟩, fun b z => ?_, ?_⟩
  · cases z
    exact ⟨ob, g1, g2.2.1⟩
  rw [m.trees]
  refine Calls.callWith_builtin rfl (Calls.evalArgs_plain (Calls.spliced_cons (thn (he.run pins s1 σ H1 _ I1 q1) fun iv s2 ⟨y, H2, I2, ry, q2⟩ => Calls.spliced_cons (thn (hf.run pins s2 σ H2 _ I2 q2) fun fv s3 ⟨z, H3, I3, rz, rows, b, k, ea, ks, ey, nk, dep, few, qq⟩ => Calls.spliced_nil ?_))))
  obtain ⟨q3, q4⟩ := qq
  subst ey
  cases ry
  obtain ⟨lo, zl, xs, rel, dd⟩ := nd_dict I3 ea ks
  have hl := paired_len rel
  refine call_setdefault_heap (knd := nestedKind X.prog X.w) (k := k) (xs := xs) (by show X.A.in1.units + 8 < cLine; show X.A.units + 1 + 8 < cLine; omega) ⟨nk_is I3 k nk rfl, dep⟩ lo dd (fun p hp => ?_) (fun hn h' dd' sb => ?_) (by rw [← hl]; exact zl)
  · rcases val_at (k := k) rel with ⟨_, h2⟩ | ⟨v, p', h1, h2, h3⟩
    · rw [h2] at hp
      cases hp
    · rw [h2] at hp
      cases hp
      exact ⟨v, H3, I3.tok _, h3, q3 v h1⟩
  · rcases val_at (k := k) rel with ⟨h1, _⟩ | ⟨v, p', _, h2, _⟩
    · rw [storedH_new hn] at dd'
      obtain ⟨o', es, ep, e1, e2, e3, e4, _, e5⟩ := dd'
      have new : NdAt X.prog X.w a (rows ++ [(k, b, z)]) h' := ⟨lo, by rw [List.length_append]; exact few, xs ++ [(k, b, fv)], paired_snoc rel ⟨rfl, rfl, rz⟩, o', es, ep, e1, e2, e3, e4, e5⟩
      exact ⟨z, _, I3.write (e := a) (by rw [ea]; exact True.intro) (.inl rfl) (fun c u hc hu => (sb.2 c hc).trans hu) ⟨o', e1⟩ (nd_new new), rz, q4 h1⟩
    · rw [hn] at h2
      cases h2
end
end SWL
set_option Elab.async false
set_option linter.all false
set_option maxRecDepth 100000
set_option maxHeartbeats 4000000
namespace SWL
open PySem PySem.Spec PyProof.Rows L2 LamX
/-! two nested tuples, compared -/
def rEqN : R2 := fun x y H Q => ∃ ks ls, NkAt H x (.tup ks) ∧ NkAt H y (.tup ls) ∧ (NestedKey.tup ks).depth ≤ 64 ∧ Q (.bl (NestedKey.beq (.tup ks) (.tup ls))) H
section
variable {X : Cx}
theorem op_eqN (hu : X.A.units + 70 < cLine) : OpR X (compareOp .Eq) rEqN := by
  intro pins s σ H x y v u Q I rx ry h
  obtain ⟨ks, ls, h1, h2, dep, q⟩ := h
  have i1 := nk_is I _ h1 rx
  have i2 := nk_is I _ h2 ry
  cases i1 with
  | @tup a o vs n _ a1 a2 a3 a4 =>
    cases i2 with
    | @tup b o' ws m _ b1 b2 b3 b4 =>
      have n1 : vs.size = ks.length := by simpa using NestedAll.length _ _ a4
      have n2 : ws.size = ls.length := by simpa using NestedAll.length _ _ b4
      have dd : NestedKey.depthAll ks ≤ 64 := by
        have : NestedKey.depthAll ks + 1 ≤ 64 := dep
        omega
      refine PySem.SeqAt.eq_tupleAt ⟨_, a1, a2, _, a3⟩ ⟨_, b1, b2, _, b3⟩ (e := keyEqAt ks ls) (by omega) (fun j j1 j2 => ?_) ?_
      · have r : X.A.in1.units + min (NestedKey.depthAll ks) (NestedKey.depthAll ls) < cLine := by
          have : X.A.in1.units = X.A.units + 1 := rfl
          omega
        have e := eqAt_keys ks ls X.A.in1 s vs.toList ws.toList a4 b4 r j (by simpa using j1) (by simpa using j2)
        simpa using e
      · rw [n1, n2, beqAll_eq]
        exact ⟨.bl _, H, I.tok _, rfl, q⟩
end
end SWL
set_option Elab.async false
set_option linter.all false
set_option maxRecDepth 100000
set_option maxHeartbeats 4000000
namespace SWL
open PySem PySem.Spec PyProof.Rows L2 LamX
/-! sets of tuples of numbers and texts: the adding -/
abbrev MRow := Addr × List Key
abbrev mH (P : Program) (w : World) (k : List Key) : Int := tupleKeyHash (mixKind P w) k
abbrev IsM (P : Program) (w : World) (h : Heap) (k : List Key) (a : Addr) : Prop := IsTupleKey (mixKind P w) h k a
def rowsM (P : Program) (w : World) (L : List MRow) : List (Int × Value) := L.map fun p => (mH P w p.2, Value.ref p.1)
section
variable {P : Program} {w : World} {A : Around} {E : Value → Shared → Prop} {s : Shared}
theorem items_mix {k : List Key} {vs : List Value} (h : ItemsAre (mixKind P w) k vs) : ∀ v ∈ vs, (∃ i t, v = Value.int i t) ∨ ∃ z t, v = Value.str z t := by
  induction h with
  | nil => intro v hv; cases hv
  | @cons k0 v' ks vs h1 _ ih =>
    intro v hv
    rcases List.mem_cons.mp hv with e | hv
    · rcases keyIs_shape h1 with ⟨i, t, _, e2⟩ | ⟨x, t, _, e2⟩
      · rw [e]
        first
          | exact .inl ⟨i, t, e2⟩
          | (subst e2; exact .inl ⟨_, _, rfl⟩)
      · rw [e]
        first
          | exact .inr ⟨x, t, e2⟩
          | (subst e2; exact .inr ⟨_, _, rfl⟩)
    · exact ih v hv
theorem cls_item (n : Nat) {v : Value} (h : (∃ i t, v = Value.int i t) ∨ ∃ z t, v = Value.str z t) : ofAClassStatement n v = pure false := by
  rcases h with ⟨i, t, rfl⟩ | ⟨z, t, rfl⟩ <;> cases n <;> rfl
theorem cls_tup {k : List Key} {b : Addr} {Q : Bool → Shared → Prop} (hk : IsM P w s.heap k b) (h : Q false s) : wpAny (model P w) A (ofAClassStatement 8 (.ref b)) Q E s := by
  have hT := hk.typeIs
  obtain ⟨o, items, n, ho, _, hd, hi⟩ := hk
  unfold ofAClassStatement
  refine wpAny_bind (wpAny_typeOf hT ?_)
  dsimp only
  have e : (("tuple" : String) == "tuple") = true := by decide
  simp only [e, if_true, Bool.not_true, Bool.false_eq_true, if_false]
  try refine wpAny_bind (wpAny_pure ?_)
  try simp only [Bool.not_true, Bool.false_eq_true, if_false]
  show wpAny _ _ (seqItems? (.ref b) >>= _) _ _ s
  refine wpAny_bind (wpAny_seqItems ho hd ?_)
  dsimp only
  refine wpAny_bind ?_
  show wpAny _ _ (forIn items _ _) _ _ s
  rw [← Array.forIn_toList]
  refine wpAny_forIn_list _ (fun rest r s' => r.1 = none ∧ s' = s ∧ ∀ v ∈ rest, (∃ i t, v = Value.int i t) ∨ ∃ z t, v = Value.str z t) _ ?_ ?_ _ _ ⟨rfl, rfl, items_mix hi⟩
  · rintro v rest r s' ⟨hr, rfl, hall⟩
    rw [cls_item _ (hall v List.mem_cons_self)]
    refine wpAny_bind (wpAny_pure ?_)
    simp only [Bool.false_eq_true, if_false]
    exact wpAny_pure ⟨rfl, rfl, fun u hu' => hall u (List.mem_cons_of_mem _ hu')⟩
  · rintro ⟨r1, r2⟩ s' ⟨hr, rfl, _⟩
    simp only at hr
    subst hr
    exact wpAny_pure h
theorem val_item (n : Nat) {v : Value} (h : (∃ i t, v = Value.int i t) ∨ ∃ z t, v = Value.str z t) : ∃ b, hashByValue n v = pure b := by
  rcases h with ⟨i, t, rfl⟩ | ⟨z, t, rfl⟩
  · exact ⟨_, hashByValue_scannable n (x := .int i t) rfl⟩
  · exact ⟨_, hashByValue_scannable n (x := .str z t) rfl⟩
theorem val_tup {k : List Key} {b : Addr} {Q : Bool → Shared → Prop} (hk : IsM P w s.heap k b) (h : ∀ b, Q b s) : wpAny (model P w) A (hashByValue 8 (.ref b)) Q E s := by
  have hT := hk.typeIs
  obtain ⟨o, items, n, ho, _, hd, hi⟩ := hk
  unfold hashByValue
  refine wpAny_bind (wpAny_specialOf hT F.slot_tuple_hash.lookup ?_)
  show wpAny _ _ (seqItems? (.ref b) >>= _) _ _ s
  refine wpAny_bind (wpAny_seqItems ho hd ?_)
  refine wpAny_bind ?_
  show wpAny _ _ (forIn items _ _) _ _ s
  rw [← Array.forIn_toList]
  refine wpAny_forIn_list _ (fun rest r s' => s' = s ∧ ∀ v ∈ rest, (∃ i t, v = Value.int i t) ∨ ∃ z t, v = Value.str z t) _ ?_ ?_ _ _ ⟨rfl, items_mix hi⟩
  · rintro v rest r s' ⟨rfl, hall⟩
    obtain ⟨c, e⟩ := val_item 7 (hall v List.mem_cons_self)
    rw [e]
    refine wpAny_bind (wpAny_pure ?_)
    cases c with
    | true =>
      simp only [Bool.not_true, Bool.false_eq_true, if_false]
      exact wpAny_pure ⟨rfl, fun u hu' => hall u (List.mem_cons_of_mem _ hu')⟩
    | false =>
      simp only [Bool.not_false, if_true]
      exact wpAny_pure (wpAny_pure (h _))
  · rintro ⟨r1, r2⟩ s' ⟨rfl, _⟩
    cases r1 with
    | none => exact wpAny_pure (h _)
    | some b => exact wpAny_pure (h _)
theorem unseen {k : List Key} {b : Addr} {Q : Bool → Shared → Prop} (hk : IsM P w s.heap k b) {ys : List Value} (hy : ∀ y ∈ ys, ∃ k' c, y = Value.ref c ∧ IsM P w s.heap k' c) (h : Q false s) :
    wpAny (model P w) A (searchCouldBeSeen (.ref b) ys) Q E s := by
  unfold searchCouldBeSeen
  refine wpAny_bind ?_
  refine wpAny_forIn_list _ (fun rest r s' => r.1 = none ∧ s' = s ∧ ∀ y ∈ rest, ∃ k' c, y = Value.ref c ∧ IsM P w s.heap k' c) _ ?_ ?_ _ _ ⟨rfl, rfl, hy⟩
  · rintro v rest r s' ⟨hr, rfl, hall⟩
    obtain ⟨k', c, rfl, hc⟩ := hall v List.mem_cons_self
    have rest' : ∀ y ∈ rest, ∃ k' c, y = Value.ref c ∧ IsM P w s'.heap k' c := fun u hu' => hall u (List.mem_cons_of_mem _ hu')
    dsimp only
    by_cases hv : (b == c || (carriedByValue (.ref b) && carriedByValue (.ref c))) = true
    · exact wp_if_pos hv (wpAny_pure ⟨rfl, rfl, rest'⟩)
    · refine wp_if_neg hv ?_
      refine wpAny_bind (wpAny_eqIsQuiet_tuple hk ?_)
      simp only [Bool.not_true, Bool.false_eq_true, if_false]
      refine wpAny_bind (wpAny_eqIsQuiet_tuple hc ?_)
      simp only [Bool.not_true, Bool.false_eq_true, if_false]
      refine wpAny_bind (cls_tup hk ?_)
      simp only [Bool.false_eq_true, if_false]
      refine wpAny_bind (cls_tup hc ?_)
      simp only [Bool.false_eq_true, if_false]
      exact wpAny_pure ⟨rfl, rfl, rest'⟩
  · rintro ⟨r1, r2⟩ s' ⟨hr, rfl, _⟩
    simp only at hr
    subst hr
    exact wpAny_pure h
/-- the set at a, its rows in the table's sequence -/
structure MSet (P : Program) (w : World) (h : Heap) (a : Addr) (L : List MRow) (es : Array (Int × Value)) (ep : Nat) (t : SetTable) : Prop where
  ob : ∃ o, h.get? a = some o ∧ o.ExactSet ∧ o.data = .set es ep t
  rows : es.toList = rowsM P w L
  tab : TabOk t (L.map fun p => mH P w p.2)
  nd : (L.map (·.2)).Nodup
  tup : ∀ p ∈ L, IsM P w h p.2 p.1
  led : w.params.followText "set-order" = true ∨ t.led = true
  room : L.length * 5 < t.mask * 3
  few : L.length < 64
theorem rows_len {L : List MRow} {es : Array (Int × Value)} (h : es.toList = rowsM P w L) : es.size = L.length := by
  have h := congrArg List.length h
  unfold rowsM at h
  rw [Array.length_toList, List.length_map] at h
  exact h
theorem rows_get {L : List MRow} {es : Array (Int × Value)} (h : es.toList = rowsM P w L) {i : Nat} {p : MRow} (hp : L[i]? = some p) : es[i]? = some (mH P w p.2, Value.ref p.1) := by
  rw [← Array.getElem?_toList, h]
  unfold rowsM
  rw [List.getElem?_map, hp] <;> rfl
theorem tab_fits {hs : List Int} {t : SetTable} (T : TabOk t hs) {n : Nat} (hn : hs.length = n) (hm : n ≤ t.mask) : t.fits n = true := by
  have h1 := T.sz
  unfold SetTable.fits SetTable.fill
  rw [T.dm, Bool.and_eq_true, beq_iff_eq, decide_eq_true_eq]
  show t.place.size = n ∧ t.place.size + 0 ≤ t.mask
  omega
variable {a : Addr} {L : List MRow} {es : Array (Int × Value)} {ep : Nat} {t : SetTable}
theorem MSet.fits (R : MSet P w s.heap a L es ep t) : t.fits es.size = true := by
  have := R.room
  exact tab_fits R.tab (by rw [List.length_map, rows_len R.rows]) (by rw [rows_len R.rows]; omega)
theorem MSet.even (R : MSet P w s.heap a L es ep t) : ¬ t.gaveWay = true := by
  unfold SetTable.gaveWay
  rw [mask_odd R.tab.mok]
  decide
/-- the search from the c-th step of its way on -/
theorem seek (R : MSet P w s.heap a L es ep t) {x : Addr} {k : List Key} (hx : IsM P w s.heap k x) (hu : A.units < cLine) {K : Nat} (hKf : K < 10 * SetTable.turns t.mask)
    (hK : way t.mask (mH P w k) K ∉ t.place.toList) (hKb : ∀ c, c < K → way t.mask (mH P w k) c ∈ t.place.toList) {Q : SetFound → Shared → Prop}
    (hin : k ∈ L.map (·.2) → Q (.there none) s) (hout : k ∉ L.map (·.2) → Q (.free (way t.mask (mH P w k) K) false) s) :
    ∀ (f c : Nat) (stand : Option SetTable.Probe), stand.getD (t.probeStart (mH P w k)) = nth t.mask (runAt t.mask (SetTable.bits (mH P w k) % (t.mask + 1)) (SetTable.bits (mH P w k))) c → c ≤ K → K - c < f →
      (∀ (i : Nat) p, L[i]? = some p → p.2 = k → ∃ c', c ≤ c' ∧ c' < K ∧ t.place.toList[i]? = some (way t.mask (mH P w k) c')) →
      wpAny (model P w) A (setSearchFrom a (.ref x) (mH P w k) true f stand) Q E s
  | 0, c, stand, _, _, hf, _ => absurd hf (Nat.not_lt_zero _)
  | f + 1, c, stand, hst, hc, hf, hre => by
    obtain ⟨o, ho, hex, hd⟩ := R.ob
    generalize hB : runAt t.mask (SetTable.bits (mH P w k) % (t.mask + 1)) (SetTable.bits (mH P w k)) = B at hst
    have wB : ∀ q, way t.mask (mH P w k) q = (nth t.mask B q).j := fun q => by rw [← hB]
    rw [setSearchFrom_succ]
    refine wpAny_bind (wpAny_setState_of ho hd R.fits ?_)
    dsimp only
    refine wp_if_neg R.even ?_
    try refine wpAny_bind (wpAny_pure ?_)
    have dum : ∀ (n : Nat) (p : SetTable.Probe), p.dummy = none → (nth t.mask p n).dummy = none := by
      intro n
      induction n with
      | zero => exact fun p h => h
      | succ n ih =>
        intro p h
        refine ih (adv t.mask p) ?_
        unfold adv
        split <;> exact h
    have sh : ∀ q, nth t.mask (nth t.mask B c) q = nth t.mask B (c + q) := fun q => (nth_add t.mask c _ q).symm
    have hashAt : ∀ (i : Nat) p, L[i]? = some p → (fun i => (es[i]?.map (·.1)).getD 0) i = mH P w p.2 := fun i p hp => by
      show (es[i]?.map (·.1)).getD 0 = _
      rw [rows_get R.rows hp] <;> rfl
    have spec := go_spec t R.tab.ris R.tab.dm (fun i => (es[i]?.map (·.1)).getD 0) (mH P w k) (10 * SetTable.turns t.mask) (K - c) (nth t.mask B c) (dum c _ (by rw [← hB]; rfl)) (by omega)
      (fun q hq => by rw [sh, ← wB]; exact hKb (c + q) (by omega)) (by rw [sh, ← wB, show c + (K - c) = K by omega]; exact hK)
    rcases spec with ⟨q, i, hq, hi, hh, hno, hpr⟩ | ⟨hno, hpr⟩
    · have hpr' : t.probe (fun i => (es[i]?.map (·.1)).getD 0) (mH P w k) (stand.getD (t.probeStart (mH P w k))) = some (.candidate (way t.mask (mH P w k) (c + q)) i (nth t.mask B (c + (q + 1)))) := by
        rw [hst, wB, ← sh, ← sh]
        exact hpr
      rw [hpr']
      dsimp only
      rw [sh, ← wB] at hi
      have hil : i < L.length := by
        have h1 : i < t.place.toList.length := (List.getElem?_eq_some_iff.mp hi).1
        have h2 := R.tab.sz
        rw [List.length_map] at h2
        rw [Array.length_toList] at h1
        omega
      obtain ⟨p, hp⟩ : ∃ p, L[i]? = some p := ⟨_, List.getElem?_eq_getElem hil⟩
      have hmem : p ∈ L := List.mem_of_getElem? hp
      have rest : wpAny (model P w) A (searchRest a (.ref x) (mH P w k) true f es t (way t.mask (mH P w k) (c + q)) i (nth t.mask B (c + (q + 1)))) Q E s := by
        unfold searchRest
        rw [rows_get R.rows hp]
        dsimp only
        refine wpAny_bind (wpAny_holding (wpAny_eqBool_tuple hu (R.tup p hmem) hx ?_))
        refine wpAny_bind (wpAny_setState_of ho hd R.fits ?_)
        dsimp only
        by_cases hkk : p.2 = k
        · exact wp_if_pos (by simp [hkk]) (wpAny_pure (hin (List.mem_map.mpr ⟨p, hmem, hkk⟩)))
        · refine wp_if_neg (by simp [hkk]) ?_
          try refine wpAny_bind (wpAny_pure ?_)
          rw [sameMem]
          dsimp only
          have hsl : t.slot (way t.mask (mH P w k) (c + q)) = .live i := slot_live R.tab.ris hi
          simp only [if_true, hsl, rows_get R.rows hp]
          refine wpAny_bind (wpAny_isSame_ref_self (wpAny_bind (wpAny_pure ?_)))
          simp only [if_true]
          refine wp_if_neg (by simp [hkk]) ?_
          refine seek R hx hu hKf hK hKb hin hout f (c + (q + 1)) _ (by rw [hB]; rfl) (by omega) (by omega) fun i0 p0 h0 hk0 => ?_
          obtain ⟨c', a1, a2, a3⟩ := hre i0 p0 h0 hk0
          refine ⟨c', ?_, a2, a3⟩
          rcases Nat.lt_trichotomy c' (c + q) with z | z | z
          · exact absurd ((hashAt i0 p0 h0).trans (congrArg (mH P w) hk0)) (hno (c' - c) i0 (by omega) (by rw [sh, ← wB, show c + (c' - c) = c' by omega]; exact a3))
          · exfalso
            rw [z] at a3
            have s0 := slot_live R.tab.ris a3
            rw [hsl] at s0
            injection s0 with s0
            rw [← s0, hp] at h0
            exact hkk ((congrArg Prod.snd (Option.some.inj h0)).trans hk0)
          · omega
      by_cases hl : t.led = true
      · refine wp_if_neg (by simp [hl]) ?_
        try refine wpAny_bind (wpAny_pure ?_)
        exact rest
      · refine wp_if_pos (by simp [hl]) ?_
        refine wpAny_bind (unseen hx (fun y hy => ?_) ?_)
        · obtain ⟨e, he, ee⟩ := List.mem_map.mp hy
          have he1 : e ∈ es ∧ e.1 = mH P w k := by simpa using he
          have he2 : e ∈ es.toList := by simpa using he1.1
          rw [R.rows] at he2
          obtain ⟨p2, hp2, e2⟩ := List.mem_map.mp he2
          refine ⟨p2.2, p2.1, ?_, R.tup p2 hp2⟩
          rw [← ee, ← e2]
        · refine wp_if_neg (by decide) ?_
          try refine wpAny_bind (wpAny_pure ?_)
          exact rest
    · have hpr' : t.probe (fun i => (es[i]?.map (·.1)).getD 0) (mH P w k) (stand.getD (t.probeStart (mH P w k))) = some (.empty (way t.mask (mH P w k) K) none) := by
        have e2 : way t.mask (mH P w k) K = (nth t.mask (nth t.mask B c) (K - c)).j := by
          rw [sh, ← wB, show c + (K - c) = K by omega]
        rw [hst, e2]
        exact hpr
      rw [hpr']
      dsimp only
      refine wpAny_pure (hout fun hm => ?_)
      obtain ⟨p0, h0, hk0⟩ := List.mem_map.mp hm
      obtain ⟨i0, hi0, e0⟩ := List.getElem_of_mem h0
      have h00 : L[i0]? = some p0 := by rw [List.getElem?_eq_getElem hi0, e0]
      obtain ⟨c', a1, a2, a3⟩ := hre i0 p0 h00 hk0
      exact hno (c' - c) i0 (by omega) (by rw [sh, ← wB, show c + (c' - c) = c' by omega]; exact a3) ((hashAt i0 p0 h00).trans (congrArg (mH P w) hk0))
theorem seek_all (R : MSet P w s.heap a L es ep t) {x : Addr} {k : List Key} (hx : IsM P w s.heap k x) (hu : A.units < cLine) {Q : SetFound → Shared → Prop}
    (hin : k ∈ L.map (·.2) → Q (.there none) s)
    (hout : ∀ K, k ∉ L.map (·.2) → way t.mask (mH P w k) K ∉ t.place.toList → (∀ c, c < K → way t.mask (mH P w k) c ∈ t.place.toList) → Q (.free (way t.mask (mH P w k) K) false) s) :
    wpAny (model P w) A (setSearch a (.ref x) (mH P w k) true) Q E s := by
  have hroom := R.room
  obtain ⟨K, hKf, hK, hKb⟩ := R.tab.first (by rw [List.length_map]; omega) (mH P w k)
  have hbig : K < 100000 := by
    have : 10 * SetTable.turns t.mask ≤ 1420 := by
      unfold SetTable.turns
      rcases R.tab.mok with e | e | e <;> omega
    omega
  unfold setSearch
  refine seek R hx hu hKf hK hKb hin (fun hn => hout K hn hK hKb) 100000 0 none rfl (Nat.zero_le _) (by omega) fun i p hp hk => ?_
  have hi : (L.map fun p => mH P w p.2)[i]? = some (mH P w k) := by rw [List.getElem?_map, hp, ← hk] <;> rfl
  have hil : i < t.place.toList.length := by
    have h1 : i < L.length := (List.getElem?_eq_some_iff.mp hp).1
    have h2 := R.tab.sz
    rw [List.length_map] at h2
    rw [Array.length_toList]
    omega
  have hj := List.getElem?_eq_getElem hil
  obtain ⟨c, hc, e⟩ := R.tab.before hK hi hj
  exact ⟨c, Nat.zero_le _, hc, by rw [hj, e]⟩
theorem isM_but {h h' : Heap} {k : List Key} {a b : Addr} {o : Obj} {es : Array (Int × Value)} {ep : Nat} {t : SetTable} (hb : IsM P w h k b) (ho : h.get? a = some o) (hd : o.data = .set es ep t) (hs : Heap.SameBut a h h') : IsM P w h' k b := by
  obtain ⟨o', items, n, ho', hc, hd', hi⟩ := hb
  have hne : b ≠ a := by
    rintro rfl
    obtain rfl : o' = o := Option.some.inj (ho'.symm.trans ho)
    rw [hd] at hd'
    exact nomatch hd'
  exact ⟨o', items, n, (hs.2 b hne).trans ho', hc, hd', hi⟩
theorem isM_keep {h h' : Heap} {k : List Key} {b : Addr} (x : IsM P w h k b) (hk : ∀ c o, h.get? c = some o → h'.get? c = some o) : IsM P w h' k b := by
  obtain ⟨o, items, n, ho, r⟩ := x
  exact ⟨o, items, n, hk b o ho, r⟩
/-- rows in the sequence of a new table -/
theorem rows_order (L : List MRow) (es : Array (Int × Value)) (order : Array Nat) (hr : es.toList = rowsM P w L) (hp : order.toList.Perm (List.range L.length)) :
    ∃ L2 : List MRow, (order.filterMap (es[·]?)).toList = rowsM P w L2 ∧ L2.Perm L ∧ (L2.map fun p => mH P w p.2) = order.toList.map fun i => (es.map (·.1)).getD i 0 := by
  have hsz := rows_len hr
  refine ⟨order.toList.filterMap fun i => L[i]?, ?_, ?_, ?_⟩
  · rw [show (order.filterMap (es[·]?)).toList = order.toList.filterMap (fun i => es[i]?) from by first | exact Array.toList_filterMap | simp]
    unfold rowsM
    rw [List.map_filterMap]
    refine congrArg (fun f => List.filterMap f order.toList) (funext fun i => ?_)
    rw [← Array.getElem?_toList, hr]
    unfold rowsM
    rw [List.getElem?_map]
  · have h1 : (order.toList.filterMap fun i => L[i]?).Perm ((List.range L.length).filterMap fun i => L[i]?) := hp.filterMap _
    have h2 : ∀ n, n ≤ L.length → (List.range n).filterMap (fun i => L[i]?) = L.take n := by
      intro n
      induction n with
      | zero => intro _; rfl
      | succ n ih =>
        intro hn
        have hlt : n < L.length := hn
        rw [List.range_succ, List.filterMap_append, ih (Nat.le_of_lt hlt), List.take_succ, List.getElem?_eq_getElem hlt]
        rw [List.filterMap_cons_some (List.getElem?_eq_getElem hlt)] <;> rfl
    rw [h2 L.length (Nat.le_refl _), List.take_length] at h1
    exact h1
  · have key : ∀ l : List Nat, (∀ i ∈ l, i < L.length) → ((l.filterMap fun i => L[i]?).map fun p => mH P w p.2) = l.map fun i => (es.map (·.1)).getD i 0 := by
      intro l
      induction l with
      | nil => intro _; rfl
      | cons i l ih =>
        intro hl
        have hi := hl i List.mem_cons_self
        have e4 : (es.map (·.1)).getD i 0 = mH P w (L[i]).2 := by
          have e5 : (es.map (·.1))[i]? = some (mH P w (L[i]).2) := by rw [Array.getElem?_map, rows_get hr (List.getElem?_eq_getElem hi)] <;> rfl
          simp [Array.getD_eq_getD_getElem?, e5]
        rw [List.filterMap_cons_some (List.getElem?_eq_getElem hi), List.map_cons, List.map_cons, ih fun j hj => hl j (List.mem_cons_of_mem _ hj), e4]
    exact key order.toList fun i hi => List.mem_range.mp (hp.mem_iff.mp hi)
end
end SWL
set_option Elab.async false
set_option linter.all false
set_option maxRecDepth 100000
set_option maxHeartbeats 4000000
namespace SWL
open PySem PySem.Spec PyProof.Rows L2 LamX
section
variable {P : Program} {w : World} {A : Around} {E : Value → Shared → Prop} {s : Shared} {a : Addr} {L : List MRow} {es : Array (Int × Value)} {ep : Nat} {t : SetTable}
/-- the table laid anew, larger -/
theorem m_relay {o : Obj} (ho : s.heap.get? a = some o) (hex : o.ExactSet) (hd : o.data = .set es ep t) (hrows : es.toList = rowsM P w L) (T0 : TabOk t (L.map fun p => mH P w p.2)) (hfl : es.size ≤ t.mask)
    (nd : (L.map (·.2)).Nodup) (tup : ∀ p ∈ L, IsM P w s.heap p.2 p.1) (ld : w.params.followText "set-order" = true ∨ t.led = true) (few : L.length < 64) {wanted M : Nat}
    (hw : SetTable.sizeAbove wanted - 1 = M) (hM : MaskOk M) (hw2 : SetTable.sizeAbove wanted ≤ 128) (hn : L.length * 5 < M * 3) {Q : Unit → Shared → Prop}
    (hQ : ∀ h' L' es' ep' t', Heap.SameBut a s.heap h' → MSet P w h' a L' es' ep' t' → L'.Perm L → Q () { s with heap := h' }) : wpAny (model P w) A (setRelay a wanted) Q E s := by
  have hsl := rows_len hrows
  have hfits : t.fits es.size = true := tab_fits T0 (by rw [List.length_map, hsl]) hfl
  obtain ⟨t', order, e, hp, T, em, el, ep', ed⟩ := relaid_ok t (hs := es.map (·.1)) (wanted := wanted) hw hM (by rw [Array.size_map, hsl]; omega)
  rw [Array.size_map, hsl] at hp
  obtain ⟨L2, r1, r2, r3⟩ := rows_order L es order hrows hp
  rw [← r3] at T
  have hs2 : (order.filterMap (es[·]?)).size = es.size := by rw [rows_len r1, r2.length_eq, hsl]
  rw [setRelay_eq]
  refine wpAny_bind (wpAny_setState_of ho hd hfits ?_)
  dsimp only
  refine wp_if_neg (by rw [sizeLine_eq]; omega) ?_
  try refine wpAny_bind (wpAny_pure ?_)
  rw [e]
  dsimp only
  refine wpAny_bind ?_
  refine wp_if_neg (by rw [hs2]; simp) ?_
  try refine wpAny_bind (wpAny_pure ?_)
  refine wpAny_pure ?_
  dsimp only
  refine wpAny_storeSet_of ho hd ?_ (by rw [hs2, hsl, sizeLine_eq]; omega)
  have sb : Heap.SameBut a s.heap (s.heap.update a (Obj.putSet (order.filterMap (es[·]?)) t')) := Heap.SameBut.update ..
  refine hQ _ L2 (order.filterMap (es[·]?)) (ep + 1) t' sb ?_ r2
  refine ⟨⟨_, store_at ho hd, ⟨hex.1, hex.2.1, hex.2.2⟩, rfl⟩, r1, T, (r2.map (·.2)).nodup_iff.mpr nd, fun p hpm => isM_but (tup p (r2.mem_iff.mp hpm)) ho hd sb, by rw [el]; exact ld, ?_, by rw [r2.length_eq]; exact few⟩
  rw [r2.length_eq, em]
  exact hn
/-- one tuple is added -/
theorem m_add (R : MSet P w s.heap a L es ep t) {x : Addr} {k : List Key} (hx : IsM P w s.heap k x) (hu : A.units < cLine) (hfew : L.length + 1 < 64) {Q : Bool → Shared → Prop}
    (hQ : ∀ b h' L' es' ep' t', Heap.SameBut a s.heap h' → MSet P w h' a L' es' ep' t' → (k ∈ L.map (·.2) → L' = L) → (k ∉ L.map (·.2) → L'.Perm ((x, k) :: L)) → Q b { s with heap := h' }) :
    wpAny (model P w) A (setAddHashed a (.ref x) (mH P w k)) Q E s := by
  obtain ⟨o, ho, hex, hd⟩ := R.ob
  have hsl := rows_len R.rows
  have hroom := R.room
  unfold setAddHashed
  refine wpAny_holding ?_
  rw [show (100000 : Nat) = 99999 + 1 from rfl, setAddHashedIn_succ]
  refine wpAny_bind (wpAny_setState_of ho hd R.fits ?_)
  dsimp only
  refine wp_if_neg (by simp [byScan, Value.scannable]) ?_
  try refine wpAny_bind (wpAny_pure ?_)
  refine wpAny_bind (seek_all R hx hu (fun hm => ?_) fun K hm hK hb => ?_)
  · dsimp only
    exact wpAny_pure (hQ false s.heap L es ep t (Heap.SameBut.refl a s.heap) R (fun _ => rfl) fun z => absurd hm z)
  · dsimp only
    refine wpAny_bind (wpAny_setState_of ho hd R.fits ?_)
    dsimp only
    obtain ⟨q1, q2, q3, q4, q5, q6, q7, q8, q9⟩ := R.tab.put hK hb
    generalize hpt : t.put (way t.mask (mH P w k) K) = pt at q1 q3 q4 q5 q6 q7 q8 q9 ⊢
    obtain ⟨t1, p⟩ := pt
    dsimp only at q1 q3 q4 q5 q6 q7 q8 q9 ⊢
    subst q1
    have hin : (SetTable.insertAt es (SetTable.below t.place (way t.mask (mH P w k) K)) (mH P w k, Value.ref x)).toList = rowsM P w (L.take (SetTable.below t.place (way t.mask (mH P w k) K)) ++ (x, k) :: L.drop (SetTable.below t.place (way t.mask (mH P w k) K))) := by
      rw [SetTable.toList_insertAt, R.rows]
      unfold rowsM
      rw [List.map_append, List.map_cons, List.map_take, List.map_drop]
    generalize hpp : SetTable.below t.place (way t.mask (mH P w k) K) = p at q2 q3 hin ⊢
    have pm := put_perm L p (x, k)
    have hlen : (L.take p ++ (x, k) :: L.drop p).length = L.length + 1 := pm.length_eq
    have hhs : (L.take p ++ (x, k) :: L.drop p).map (fun p => mH P w p.2) = (L.map fun p => mH P w p.2).take p ++ mH P w k :: (L.map fun p => mH P w p.2).drop p := by
      rw [List.map_append, List.map_cons, List.map_take, List.map_drop]
    rw [← hhs] at q3
    have nd1 : ((L.take p ++ (x, k) :: L.drop p).map (·.2)).Nodup := by
      refine (pm.map (·.2)).nodup_iff.mpr ?_
      rw [List.map_cons]
      exact List.nodup_cons.mpr ⟨hm, R.nd⟩
    have hes := rows_len hin
    rw [hlen] at hes
    generalize SetTable.insertAt es p (mH P w k, Value.ref x) = es1 at hin hes ⊢
    generalize L.take p ++ (x, k) :: L.drop p = L1 at pm hlen q3 nd1 hin
    -- whatever the table says of what is carried by value
    have main : ∀ t1' : SetTable, TabOk t1' (L1.map fun p => mH P w p.2) → t1'.mask = t.mask → t1'.led = t.led → t1'.fill = L.length + 1 → wpAny (model P w) A (do
        storeSet a es1 t1'
        if !false && t1'.tooFull then setRelay a (SetTable.grown (es.size + 1))
        return true) Q E s := fun t1 q3 q4 q5 q9 => by
      refine wpAny_bind (wpAny_storeSet_of ho hd ?_ (by rw [hes, sizeLine_eq]; omega))
      have sb : Heap.SameBut a s.heap (s.heap.update a (Obj.putSet es1 t1)) := Heap.SameBut.update ..
      have ho1 := store_at (es' := es1) (t' := t1) ho hd
      generalize s.heap.update a (Obj.putSet es1 t1) = h1 at sb ho1 ⊢
      have tup1 : ∀ p ∈ L1, IsM P w h1 p.2 p.1 := fun p hp => by
        rcases List.mem_cons.mp (pm.mem_iff.mp hp) with e | hp
        · rw [e]; exact isM_but hx ho hd sb
        · exact isM_but (R.tup p hp) ho hd sb
      have ld1 : w.params.followText "set-order" = true ∨ t1.led = true := by rw [q5]; exact R.led
      by_cases hf : t1.tooFull = true
      · first
          | (refine wpAny_bind ?_; refine wp_if_pos (by simp [hf]) ?_)
          | (refine wp_if_pos (by simp [hf]) ?_; refine wpAny_bind ?_)
        have hfull : (L.length + 1) * 5 ≥ t1.mask * 3 := by
          have h := hf
          unfold SetTable.tooFull at h
          rw [decide_eq_true_eq, q9] at h
          exact h
        rw [hsl]
        have cases2 : (t.mask = 7 ∧ L.length = 4) ∨ (t.mask = 31 ∧ L.length = 18) := by
          rcases R.tab.mok with e | e | e
          · left; rw [q4, e] at hfull; rw [e] at hroom; exact ⟨e, by omega⟩
          · right; rw [q4, e] at hfull; rw [e] at hroom; exact ⟨e, by omega⟩
          · exfalso; rw [q4, e] at hfull; omega
        have go : ∀ M, SetTable.sizeAbove (SetTable.grown (L.length + 1)) - 1 = M → MaskOk M → SetTable.sizeAbove (SetTable.grown (L.length + 1)) ≤ 128 → (L.length + 1) * 5 < M * 3 →
            wpAny (model P w) A (setRelay a (SetTable.grown (L.length + 1))) (fun _ s' => wpAny (model P w) A (pure true) Q E s') E { s with heap := h1 } := fun M h1' h2' h3' h4' => by
          refine m_relay (s := { s with heap := h1 }) ho1 ⟨hex.1, hex.2.1, hex.2.2⟩ rfl hin q3 (by rw [hes, q4]; rcases cases2 with ⟨e, e2⟩ | ⟨e, e2⟩ <;> omega) nd1 tup1 ld1 (by rw [hlen]; exact hfew) h1' h2' h3' (by rw [hlen]; exact h4') ?_
          intro h2 L2 es2 ep2 t2 sb2 R2 pm2
          refine wpAny_pure (hQ true h2 L2 es2 ep2 t2 (sb.trans sb2) R2 (fun z => absurd z hm) fun _ => pm2.trans pm)
        rcases cases2 with ⟨_, e2⟩ | ⟨_, e2⟩
        · refine go 31 (by rw [e2, size_20]) (.inr (.inl rfl)) (by rw [e2, size_20]; decide) (by omega)
        · refine go 127 (by rw [e2, size_76]) (.inr (.inr rfl)) (by rw [e2, size_76]; decide) (by omega)
      · first
          | refine wp_if_neg (by simp [hf]) ?_
          | (refine wpAny_bind ?_; refine wp_if_neg (by simp [hf]) ?_; refine wpAny_pure ?_)
        refine wpAny_pure (hQ true h1 L1 es1 (ep + 1) t1 sb ⟨⟨_, ho1, ⟨hex.1, hex.2.1, hex.2.2⟩, rfl⟩, hin, q3, nd1, tup1, ld1, ?_, by rw [hlen]; exact hfew⟩ (fun z => absurd z hm) fun _ => pm)
        have h := hf
        unfold SetTable.tooFull at h
        rw [decide_eq_true_eq, q9] at h
        rw [hlen]
        omega
    have q9' : t1.fill = L.length + 1 := by rw [q9, List.length_map]
    have off : ∀ T : TabOk t1 (L1.map fun p => mH P w p.2), TabOk { t1 with plain := false } (L1.map fun p => mH P w p.2) := fun T => ⟨T.ris, T.dm, T.sz, T.mok, T.bd, T.reach⟩
    by_cases pl : t1.plain = true
    · first
        | (refine wpAny_bind ?_; refine wp_if_pos pl ?_; refine val_tup hx fun b => ?_)
        | refine wp_if_pos pl (wpAny_bind (val_tup hx fun b => ?_))
      cases b with
      | true => exact main t1 q3 q4 q5 q9'
      | false => exact main { t1 with plain := false } (off q3) q4 q5 q9'
    · first
        | (refine wpAny_bind ?_; refine wp_if_neg pl ?_; refine wpAny_pure ?_)
        | refine wp_if_neg pl (wpAny_bind (wpAny_pure ?_))
      exact main t1 q3 q4 q5 q9'
theorem m_fresh {h : Heap} {a : Addr} (ho : h.get? a = some (set0 w)) : MSet P w h a [] #[] 0 (.fresh 0 0 (!w.params.followText "set-order")) where
  ob := ⟨_, ho, ⟨rfl, rfl, rfl⟩, rfl⟩
  rows := rfl
  tab := ⟨List.Pairwise.nil, rfl, rfl, .inl rfl, fun x hx => (by cases hx), fun i h j hi => (by simp at hi)⟩
  nd := List.nodup_nil
  tup := fun p hp => (by cases hp)
  led := by
    show _ ∨ (!w.params.followText "set-order") = true
    cases w.params.followText "set-order"
    · exact .inr rfl
    · exact .inl rfl
  room := by
    show 0 * 5 < 7 * 3
    decide
  few := by
    show 0 < 64
    decide
end
end SWL
set_option Elab.async false
set_option linter.all false
set_option maxRecDepth 100000
set_option maxHeartbeats 4000000
namespace SWL
open PySem PySem.Spec PyProof.Rows L2 LamX
/-! set(a list of tuples), sorted(the set) -/
/-- the set holds each key of these rows once -/
structure Each1 (ks L : List MRow) : Prop where
  sub : ∀ p ∈ L, p ∈ ks
  all : ∀ p ∈ ks, p.2 ∈ L.map (·.2)
  nd : (L.map (·.2)).Nodup
structure MRaw (P : Program) (w : World) (h : Heap) (a : Addr) (L : List MRow) : Prop where
  ex : ∃ o es ep t, h.get? a = some o ∧ o.ExactSet ∧ o.data = .set es ep t ∧ es.toList = rowsM P w L ∧ t.fits es.size = true ∧ Ris t.place.toList ∧ (w.params.followText "set-order" = true ∨ t.led = true)
  few : L.length < 64
  nd : (L.map (·.2)).Nodup
def MsO (P : Program) (w : World) (a : Addr) (L : List MRow) : HO := .ext fun h => MRaw P w h a L
theorem msO_new {P : Program} {w : World} {H : Hp} {h : Heap} {a : Addr} {L : List MRow} (x : MRaw P w h a L) : ObjOk P w H h a (MsO P w a L) := by
  refine ⟨x, (by obtain ⟨o, _, _, _, ho, _⟩ := x.ex; exact ⟨o, ho⟩), fun h1 h2 y k => ?_⟩
  obtain ⟨⟨o, es, ep, t, ho, r⟩, y2, y3⟩ := (show MRaw P w h1 a L from y)
  exact ⟨⟨o, es, ep, t, k _ ho, r⟩, y2, y3⟩
section
variable {P : Program} {w : World} {A : Around} {E : Value → Shared → Prop} {s : Shared}
theorem MSet.raw {h : Heap} {a : Addr} {L : List MRow} {es : Array (Int × Value)} {ep : Nat} {t : SetTable} (R : MSet P w h a L es ep t) : MRaw P w h a L := by
  obtain ⟨o, ho, hex, hd⟩ := R.ob
  have := R.room
  exact ⟨⟨o, es, ep, t, ho, hex, hd, R.rows, tab_fits R.tab (by rw [List.length_map, rows_len R.rows]) (by rw [rows_len R.rows]; omega), R.tab.ris, R.led⟩, R.few, R.nd⟩
theorem MSet.stay {h h' : Heap} {a : Addr} {L : List MRow} {es : Array (Int × Value)} {ep : Nat} {t : SetTable} (R : MSet P w h a L es ep t) (ha : ∀ o, h.get? a = some o → h'.get? a = some o) (ht : ∀ p ∈ L, IsM P w h' p.2 p.1) : MSet P w h' a L es ep t := by
  obtain ⟨o, ho, r⟩ := R.ob
  exact ⟨⟨o, ha o ho, r⟩, R.rows, R.tab, R.nd, ht, R.led, R.room, R.few⟩
theorem m_fill {l : Addr} {items : Array Value} (ks : List MRow) {Q : Value → Shared → Prop} (hh : A.handled = none) (hl : s.heap.IsList l items) (hit : items.toList = ks.map fun p => Value.ref p.1)
    (hk : ∀ p ∈ ks, IsM P w s.heap p.2 p.1) (hfew : ks.length < 64) (hu : A.units + 16 < cLine)
    (q : ∀ (h' : Heap) (tk : Nat) (L : List MRow), MRaw P w h' s.heap.objs.size L → Each1 ks L → (∀ b o, s.heap.get? b = some o → h'.get? b = some o) → Q (.ref s.heap.objs.size) { s with heap := h', toks := tk }) :
    wpAny (model P w) A (call (.type "set") [.ref l]) Q E s := by
  have hisz : items.size = ks.length := by
    have q := congrArg List.length hit
    rw [Array.length_toList, List.length_map] at q
    exact q
  refine set_by fun A' E' hA hU => ?_
  have hh' : A'.handled = none := hA.trans hh
  have hS : (s.heap.push (set0 w)).get? s.heap.objs.size = some (set0 w) := Heap.get?_push_size _ rfl
  obtain ⟨ol, hol, hcl, nl, hdl⟩ := hl
  obtain ⟨ocls, odict, odata, oslots⟩ := ol
  simp only at hcl hdl
  subst hcl
  subst hdl
  have hlS : l < s.heap.objs.size := Heap.lt_size hol
  have hol' : (s.heap.push (set0 w)).get? l = some { cls := .type "list", dict := odict, data := .seq items nl, slots := oslots } := Heap.get?_push_of_some _ hol
  have hl1 : (s.heap.push (set0 w)).IsList l items := ⟨_, hol', rfl, nl, rfl⟩
  have hsls := F.sub_list_set
  have hslf := F.sub_list_frozenset
  have hne : (Value.type "list" == Value.type "dict") = false := by decide
  unfold Builtin.Frozenset.updateFrom
  generalize hPI : pyIter = PI
  wp_walk
  subst hPI
  refine wpAny_pyIter_list hl1 ?_
  refine wpAny_bind (wpAny_runValue ?_)
  have sz1 : (s.heap.push (set0 w)).objs.size = s.heap.objs.size + 1 := size_push' _ _
  have hneI : l ≠ (s.heap.push (set0 w)).objs.size := by
    rw [sz1]
    exact Nat.ne_of_lt (Nat.lt_succ_of_lt hlS)
  have away : s.heap.objs.size ∉ [(s.heap.push (set0 w)).objs.size, l] := by
    rw [sz1]
    simp only [List.mem_cons, List.not_mem_nil, or_false, not_or]
    exact ⟨Nat.ne_of_lt (Nat.lt_succ_self _), Nat.ne_of_gt hlS⟩
  have up : ∀ o b u, s.heap.get? b = some u → ((s.heap.push (set0 w)).push o).get? b = some u := fun o b u e => Heap.get?_push_of_some _ (Heap.get?_push_of_some _ e)
  have lt : ∀ b u, s.heap.get? b = some u → b ≠ s.heap.objs.size ∧ b ≠ (s.heap.push (set0 w)).objs.size := fun b u e => by
    have h := Heap.lt_size e
    exact ⟨Nat.ne_of_lt h, Nat.ne_of_lt (by rw [sz1]; exact Nat.lt_succ_of_lt h)⟩
  have at_ : ∀ p ∈ ks, ∃ u, s.heap.get? p.1 = some u := fun p hp => by
    obtain ⟨o, _, _, ho, _⟩ := hk p hp
    exact ⟨o, ho⟩
  have kept : ∀ p ∈ ks, ∀ h : Heap, (∀ b u, s.heap.get? b = some u → h.get? b = some u) → IsM P w h p.2 p.1 := fun p hp h k => isM_keep (hk p hp) k
  refine fill_loop (P := P) (w := w) (A := A') (n := items.size) (wr := [(s.heap.push (set0 w)).objs.size]) ((Walks.list (by simp [hh']) _ l hneI items).toS) away
    (fun i h => (∀ b u, s.heap.get? b = some u → h.get? b = some u) ∧ ∃ L es ep t, MSet P w h s.heap.objs.size L es ep t ∧ (∀ p ∈ L, p ∈ ks.take i) ∧ (∀ p ∈ ks.take i, p.2 ∈ L.map (·.2)) ∧ L.length ≤ i)
    (fun i h h' ⟨g, L, es, ep, t, x, g1, g2, g3⟩ k => ?_) ?_ items.size 0 _ (by omega) ⟨⟨_, Heap.get?_push_size _ rfl, rfl, rfl⟩, hl1.push _⟩ ⟨up _, [], #[], 0, _, m_fresh (Heap.get?_push_of_some _ hS), (fun p hp => by cases hp), (fun p hp => by simp at hp), Nat.le_refl _⟩ ?_
  · have g' : ∀ b u, s.heap.get? b = some u → h'.get? b = some u := fun b u e => k b u (by simpa using (lt b u e).2) (g b u e)
    exact ⟨g', L, es, ep, t, x.stay (fun o e => k _ o (by rw [sz1]; simp) e) (fun p hp => kept p (List.mem_of_mem_take (g1 p hp)) h' g'), g1, g2, g3⟩
  · rintro i v s0 Q' E2 hi hv ⟨g, L, es, ep, t, x, g1, g2, g3⟩ q'
    obtain ⟨p, hp, rfl⟩ : ∃ p, ks[i]? = some p ∧ v = .ref p.1 := by
      have q : items.toList[i]? = some v := by rw [Array.getElem?_toList]; exact hv
      rw [hit, List.getElem?_map] at q
      cases hq : ks[i]? with
      | none => rw [hq] at q; cases q
      | some p =>
        rw [hq] at q
        exact ⟨p, rfl, (Option.some.inj q).symm⟩
    have hpm : p ∈ ks := List.mem_of_getElem? hp
    have ht : ks.take (i + 1) = ks.take i ++ [p] := take_snoc hp
    have hx : IsM P w s0.heap p.2 p.1 := kept p hpm _ g
    have hu' : A'.in1.units < cLine := by
      show A'.units + 1 < cLine
      omega
    unfold setAdd
    refine wpAny_holding (wpAny_bind (wpAny_pyHash_tuple hu' hx ?_))
    refine m_add (s := { s0 with toks := s0.toks + (p.2.length + 1) }) x hx hu' (by omega) fun b h' L' es' ep' t' sb R c1 c2 => ?_
    have g' : ∀ b u, s.heap.get? b = some u → h'.get? b = some u := fun b u e => (sb.2 b (lt b u e).1).trans (g b u e)
    refine q' b h' _ (Nat.le_add_right _ _) sb ⟨g', L', es', ep', t', R, ?_⟩
    rw [ht]
    by_cases c : p.2 ∈ L.map (·.2)
    · rw [c1 c]
      refine ⟨fun y hy => List.mem_append_left _ (g1 y hy), fun y hy => ?_, by omega⟩
      rcases List.mem_append.mp hy with h | h
      · exact g2 y h
      · rw [List.mem_singleton.mp h]
        exact c
    · have pm := c2 c
      refine ⟨fun y hy => ?_, fun y hy => ?_, by rw [pm.length_eq, List.length_cons]; omega⟩
      · rcases List.mem_cons.mp (pm.mem_iff.mp hy) with h | h
        · rw [h]
          exact List.mem_append_right _ List.mem_cons_self
        · exact List.mem_append_left _ (g1 y h)
      · rw [(pm.map (·.2)).mem_iff, List.map_cons]
        rcases List.mem_append.mp hy with h | h
        · exact List.mem_cons_of_mem _ (g2 y h)
        · rw [List.mem_singleton.mp h]
          exact List.mem_cons_self
  · rintro s' mv ⟨g, L, es, ep, t, x, g1, g2, g3⟩
    obtain ⟨h', g', d', tk', os'⟩ := s'
    obtain rfl : g' = s.gens := mv.gens
    obtain rfl : d' = s.drawn := mv.drawn
    obtain rfl : os' = s.os := mv.os
    have et : ks.take items.size = ks := List.take_of_length_le (by omega)
    rw [et] at g1 g2
    refine wpAny_pure ?_
    exact q h' tk' L x.raw ⟨g1, g2, x.nd⟩ g
end
section
variable {X : Cx}
def keysIn (H : Hp) (ks : List MRow) : Prop := ∀ p ∈ ks, H p.1 = some (.tup (p.2.map kV))
theorem isM_of {pins : List (Addr × Obj)} {σ : L2.St} {H : Hp} {s : Shared} (I : Inv X pins σ H s) {p : MRow} (h : H p.1 = some (.tup (p.2.map kV))) : IsM X.prog X.w s.heap p.2 p.1 := by
  obtain ⟨_, its, rv, o, ho, hc, n, hd⟩ := (show ObjOk X.prog X.w H s.heap p.1 (.tup (p.2.map kV)) from I.hok _ _ h)
  exact ⟨o, its.toArray, n, ho, hc, hd, by rw [List.toList_toArray]; exact items_of p.2 its rv⟩
/-- set(xs) -/
def rSetM (K : PySem.W.Frag) (P : Program) (w : World) : List V → Hp → VK → Prop := fun xs H Q => ∃ l ks, xs = [.ref l] ∧ SqL K H l (ks.map fun p => V.ref p.1) ∧ keysIn H ks ∧ ks.length < 64 ∧ ∀ p L, H p = none → Each1 ks L → L.length < 64 → Q (.ref p) (upd H p (MsO P w p L))
theorem refs_of : ∀ {ks : List MRow} {us : List Value}, Vals (ks.map fun p => V.ref p.1) us → us = ks.map fun p => Value.ref p.1
  | [], _, .nil => rfl
  | p :: ks, _, .cons r t => by
    cases r
    rw [refs_of t]
    rfl
theorem cr_setM (hc : X.calm = true) (hu : X.A.units + 16 < cLine) : CallR X (.type "set") (rSetM X.K X.prog X.w) := by
  intro pins s σ H xs us Q I r h
  obtain ⟨l, ks, rfl, hs, hk, few, q⟩ := h
  rw [Vals.ref1 r]
  obtain ⟨its, rv, pl, hz⟩ := I.list hs
  refine m_fill ks (I.ok.hd hc) pl.isList (by simpa using refs_of rv) (fun p hp => isM_of I (hk p hp)) few hu fun h' tk L x e k => ?_
  exact ⟨.ref s.heap.objs.size, _, I.laid (t' := tk) k (Nat.le_refl _) (msO_new x), rfl, q _ L (I.hok.fresh (Nat.le_refl _)) e x.few⟩
/-- sorted(the set) -/
def rSortM (P : Program) (w : World) : List V → Hp → VK → Prop := fun xs H Q => ∃ a L, xs = [.ref a] ∧ H a = some (MsO P w a L) ∧ keysIn H L ∧ PySem.W.AllAlike (L.map fun p => encT p.2) ∧ (∀ p ∈ L, p.2 ≠ []) ∧
  ∀ (ys : List MRow) p, ys.Perm L → ys.Pairwise (fun x y => PySem.W.dataLt (encT y.2) (encT x.2) = false) → H p = none → Q (.ref p) (upd H p (.lst (ys.map fun y => V.ref y.1)))
theorem each_rows : ∀ {L : List MRow}, PySem.W.EachIs (fun v (y : MRow) => v = Value.ref y.1) (L.map fun y => Value.ref y.1) L
  | [] => .nil
  | y :: L => .cons rfl each_rows
theorem rows_each : ∀ {us : List Value} {ys : List MRow}, PySem.W.EachIs (fun v (y : MRow) => v = Value.ref y.1) us ys → Vals (ys.map fun y => V.ref y.1) us
  | _, _, .nil => .nil
  | _, _, .cons h t => by
    subst h
    exact .cons rfl (rows_each t)
theorem cr_sortedM (hc : X.calm = true) (hu : X.A.units + 64 < cLine) : CallR X (.builtin "sorted") (rSortM X.prog X.w) := by
  intro pins s σ H xs us Q I r h
  obtain ⟨a, L, rfl, ha, hk, hal, hne, q⟩ := h
  rw [Vals.ref1 r]
  obtain ⟨⟨o, es, ep, t, ho, hx, hd, hrows, hfit, hris, hled⟩, few, nd⟩ := (show ObjOk X.prog X.w H s.heap a (MsO X.prog X.w a L) from I.hok _ _ ha).1
  have n1 := rows_len hrows
  have hm : ∀ p ∈ L, IsM X.prog X.w s.heap p.2 p.1 := fun p hp => isM_of I (hk p hp)
  refine Calls.call_function_entry kind_sorted plain_sorted entry_sorted (args_sorted1 _) ?_
  unfold Builtin.«sorted»
  refine wpAny_bind (m := checkCount "sorted" 1 1 _) (wpAny_pure ?_)
  refine wpAny_bind (collect_set (A := X.A.in1) (I.ok.hd hc) ⟨o, ho, hx.1, hd⟩ hfit (by rw [n1]; unfold scanBound; omega) hris hled fun s1 vs up sz g1 o1 pm => ?_)
  have hes : es.toList.map (·.2) = L.map fun y => Value.ref y.1 := by
    rw [hrows]
    unfold rowsM
    rw [List.map_map]
    rfl
  rw [hes] at pm
  -- the rows in the sequence in which they come
  let back : Value → MRow := fun v => (L.find? fun y => Value.ref y.1 == v).getD (0, [])
  have hb : ∀ y ∈ L, back (Value.ref y.1) = y := fun y hy => by
    show (L.find? fun z => Value.ref z.1 == Value.ref y.1).getD (0, []) = y
    cases e : L.find? fun z => Value.ref z.1 == Value.ref y.1 with
    | none =>
      have := List.find?_eq_none.mp e y hy
      simp at this
    | some z =>
      have h1 := List.mem_of_find?_eq_some e
      have h2 := List.find?_some e
      have h3 : z.1 = y.1 := by
        have h2' := beq_iff_eq.mp h2
        injection h2'
      have z1 := hm z h1
      have y1 := hm y hy
      rw [h3] at z1
      exact Prod.ext h3 (z1.inj y1)
  have hv : ∀ v ∈ vs, ∃ y ∈ L, v = Value.ref y.1 := fun v hv => by
    obtain ⟨y, hy, e⟩ := List.mem_map.mp (pm.mem_iff.mp hv)
    exact ⟨y, hy, e.symm⟩
  have e1 : vs = (vs.map back).map fun y => Value.ref y.1 := by
    rw [List.map_map]
    have : ∀ l : List Value, (∀ v ∈ l, ∃ y ∈ L, v = Value.ref y.1) → l = l.map ((fun y : MRow => Value.ref y.1) ∘ back) := by
      intro l
      induction l with
      | nil => intro _; rfl
      | cons v l ih =>
        intro h
        obtain ⟨y, hy, rfl⟩ := h v List.mem_cons_self
        rw [List.map_cons, ← ih fun u hu => h u (List.mem_cons_of_mem _ hu)]
        show _ = Value.ref (back (Value.ref y.1)).1 :: l
        rw [hb y hy]
    exact this vs hv
  have p1 : (vs.map back).Perm L := by
    have h := pm.map back
    rw [List.map_map] at h
    have e : L.map (back ∘ fun y : MRow => Value.ref y.1) = L := by
      have : ∀ l : List MRow, (∀ y ∈ l, y ∈ L) → l.map (back ∘ fun y : MRow => Value.ref y.1) = l := by
        intro l
        induction l with
        | nil => intro _; rfl
        | cons y l ih =>
          intro h
          rw [List.map_cons, ih fun u hu => h u (List.mem_cons_of_mem _ hu)]
          show back (Value.ref y.1) :: l = y :: l
          rw [hb y (h y List.mem_cons_self)]
      exact this L fun y hy => hy
    rw [e] at h
    exact h
  generalize vs.map back = L1 at e1 p1
  subst e1
  have nl : L1.length < 64 := by rw [p1.length_eq]; exact few
  have nv : (L1.map fun y => Value.ref y.1).length ≤ sizeLine := by rw [List.length_map, sizeLine_eq]; omega
  refine wpAny_bind (wpAny_newList ?_ nv)
  generalize hvs : L1.map (fun y => Value.ref y.1) = vs at pm hv nv ⊢
  have at1 : (s1.heap.push (seqObj "list" vs.toArray 0)).get? s1.heap.objs.size = some (seqObj "list" vs.toArray 0) := Heap.get?_push_size _ rfl
  have hE : PySem.W.EachIs (fun v (y : MRow) => v = Value.ref y.1) vs L1 := by rw [← hvs]; exact each_rows
  have kp : ∀ b u, s.heap.get? b = some u → (s1.heap.push (seqObj "list" vs.toArray 0)).get? b = some u := fun b u e => Heap.get?_push_of_some _ (up b u e)
  have hR : PySem.W.EachIs (fun v (y : MRow) => ∃ as, Reads (s1.heap.push (seqObj "list" vs.toArray 0)) v (encT y.2) as ∧ s1.heap.objs.size ∉ as) vs L1 := by
    refine (PySem.W.each_mem hE).mono fun v y ⟨e, hy⟩ => ⟨[], ?_, by simp⟩
    subst e
    exact PyProof.Rows.Reads.keeps kp (tup_reads (hm y (p1.mem_iff.mp hy)))
  refine wpAny_bind (wpAny_holding ?_)
  refine PySem.W.list_sort_data (s := { s1 with heap := s1.heap.push (seqObj "list" vs.toArray 0) }) (enc := fun y : MRow => encT y.2) (bs := L1) at1 hE hR (fun d hd d' hd' => ?_) (.inl fun dd hdd => ?_) (by rw [sizeLine_eq]; omega) (fun y _ => ?_) fun out hlen hout => ?_
  · exact hal d ((p1.map _).mem_iff.mp hd) d' ((p1.map _).mem_iff.mp hd')
  · obtain ⟨y, hy, rfl⟩ := List.mem_map.mp hdd
    cases e : y.2 with
    | nil => exact absurd e (hne y (p1.mem_iff.mp hy))
    | cons k r => exact ⟨encK k, r.map encK, rfl⟩
  · have hdep : (encT y.2).depth = 1 := by
      have z : ∀ l : List Key, PyData.depthAll (l.map encK) = 0 := by
        intro l
        induction l with
        | nil => rfl
        | cons k r ih =>
          show PyData.depthAll (encK k :: r.map encK) = 0
          rw [PyData.depthAll, ih]
          cases k <;> rfl
      show PyData.depth (.tuple (y.2.map encK)) = 1
      rw [PyData.depth, z]
    rw [hdep]
    show X.A.units + 1 + 1 + 1 < cLine
    omega
  · obtain ⟨c, at2⟩ := sortedHeap_at (vs := vs) (out := out.toArray) at1
    have hv2 := rows_each hout
    have pw := PySem.W.sort_pairwise (PySem.W.sortLe_total (listOrd itemOrd) false fun y : MRow => PySem.W.keyToks (encT y.2)) L1
    have p2 : (L1.mergeSort (PySem.W.dataLe false fun y : MRow => encT y.2)).Perm L := (List.mergeSort_perm L1 _).trans p1
    have pw2 : (L1.mergeSort (PySem.W.dataLe false fun y : MRow => encT y.2)).Pairwise (fun x y => PySem.W.dataLt (encT y.2) (encT x.2) = false) := by
      refine List.Pairwise.imp (fun {x y} hxy => ?_) pw
      have h2 : (!PySem.W.dataLt (encT y.2) (encT x.2)) = true := hxy
      simpa using h2
    generalize L1.mergeSort (PySem.W.dataLe false fun y : MRow => encT y.2) = ys at hv2 p2 pw2
    have ll : (ys.map fun y => V.ref y.1).length ≤ sizeLine := by
      rw [List.length_map, p2.length_eq, sizeLine_eq]
      omega
    have old : ∀ b u, s.heap.get? b = some u → (sortedHeap (s1.heap.push (seqObj "list" vs.toArray 0)) s1.heap.objs.size vs out.toArray).get? b = some u := fun b u e => by
      have h1 := up b u e
      have h2 := Heap.lt_size h1
      exact (sortedHeap_old (Nat.ne_of_lt h2) (by rw [size_push']; exact Nat.lt_succ_of_lt h2)).trans (Heap.get?_push_of_some _ h1)
    have fresh : H s1.heap.objs.size = none := I.hok.fresh sz
    have newO : ObjOk X.prog X.w (upd H s1.heap.objs.size (.lst (ys.map fun y => V.ref y.1))) (sortedHeap (s1.heap.push (seqObj "list" vs.toArray 0)) s1.heap.objs.size vs out.toArray) s1.heap.objs.size (.lst (ys.map fun y => V.ref y.1)) := ⟨ll, _, c, hv2, at2⟩
    refine wpAny_pure ⟨_, rfl, .ref s1.heap.objs.size, upd H s1.heap.objs.size (.lst (ys.map fun y => V.ref y.1)), ?_, rfl, q ys _ p2 pw2 fresh⟩
    refine I.call' (ch := []) o1 (Un.laid old sz fresh) (I.hok.laid old sz newO) ?_ (fun _ z => nomatch z)
    show AllBare s1.gens
    rw [g1]
    exact I.bare
end
end SWL
set_option Elab.async false
set_option linter.all false
set_option maxRecDepth 100000
set_option maxHeartbeats 4000000
namespace SWL
open PySem PySem.Spec PyProof.Rows L2 LamX
/-! enumerate(text); dicts of nested keys: in, [], []= -/
def IteS (z : Str) : It :=
  ⟨fun i H => ∃ c, z.cps.toList[i]? = some c, fun i H v H' => ∃ T c, v = .ref T ∧ H T = none ∧ H' = upd H T (.tup [.int (i : Nat), .str ⟨#[c]⟩]) ∧ z.cps.toList[i]? = some c, fun i H => z.cps.toList.length = i⟩
theorem turn_enumS {P : Program} {w : World} {K : PySem.W.Frag} {elts : List Expr} {kk : Nat} {tpos : Pos} (z : Str) (tk0 : Tok) (e it : Addr) :
    Turn P w K (.Tuple elts kk tpos) (IteS z) [e, it] e (fun i h => (∃ old, IsEnum h e it (0 + ((i : Nat) : Int)) old) ∧ h.IsStrIter it (strIterType z) z tk0 i ∧ e ≠ it) where
  mem := by simp
  obj := fun i h st b hb => by
    obtain ⟨⟨old, he⟩, ⟨o, ho, hc, hd⟩, _⟩ := st
    rcases (by simpa using hb : b = e ∨ b = it) with z | z
    · exact ⟨_, by rw [z]; exact he, fun v q => by cases q⟩
    · exact ⟨o, by rw [z]; exact ho, fun v q => by rw [hd] at q; cases q⟩
  keep := fun i h h' st k => let ⟨⟨old, he⟩, ⟨o, ho, r⟩, hne⟩ := st; ⟨⟨old, k e (by simp) _ he⟩, ⟨o, k it (by simp) o ho, r⟩, hne⟩
  item := by
    intro X hP hw hK hc i pins s σ H E I hf st hg
    subst hP hw hK
    have hh : X.A.handled = none := I.ok.hd hc
    obtain ⟨c, hx⟩ := hg
    obtain ⟨he, hit, hne⟩ := st
    have G := GoesN.enumFrom (elts := elts) (x1 := kk) (pos := tpos) 0 (Draws.text (prog := X.prog) (w := X.w) (A := X.A.in1) hh it z tk0) e hne (by simp [hne]) (by simp)
    have hlt : i < z.cps.size := by
      have := (List.getElem?_eq_some_iff.mp hx).1
      simpa using this
    refine G.goes i s _ E hlt ⟨he, hit⟩ fun v h' tk hY st' hk _ => ?_
    obtain ⟨T, t, u, rfl, hT, ⟨c', u', hc', rfl⟩, hTup⟩ := hY
    have hcc : c' = c := by
      rw [← Array.getElem?_toList, hx] at hc'
      exact (Option.some.inj hc').symm
    subst hcc
    have fr : H T = none := I.hok.fresh hT
    refine ⟨.ref T, upd H T (.tup [.int (i : Nat), .str ⟨#[c']⟩]), I.turnedNew (t' := tk) (ch := [e, it]) hk hf hT ?_, rfl, ⟨T, c', rfl, fr, rfl, hx⟩, ⟨st'.1, st'.2, hne⟩, fun b hb => ?_⟩
    · refine ⟨by show 2 ≤ sizeLine; decide, _, .cons ⟨t, ?_⟩ (.cons ⟨u', rfl⟩ .nil), hTup⟩
      rw [Int.zero_add]
    · have hlt2 : b < s.heap.objs.size := by
        obtain ⟨old, he⟩ := he
        obtain ⟨o, ho, _⟩ := hit
        rcases (by simpa using hb : b = e ∨ b = it) with z | z
        · rw [z]; exact Heap.lt_size he
        · rw [z]; exact Heap.lt_size ho
      rw [upd_ne (Nat.ne_of_lt (Nat.lt_of_lt_of_le hlt2 hT))]
      exact (hf b hb).1
  done := by
    intro X hP hw hK hc i pins s σ H E I hf st hg
    subst hP hw hK
    have hh : X.A.handled = none := I.ok.hd hc
    obtain ⟨he, hit, hne⟩ := st
    have G := GoesN.enumFrom (elts := elts) (x1 := kk) (pos := tpos) 0 (Draws.text (prog := X.prog) (w := X.w) (A := X.A.in1) hh it z tk0) e hne (by simp [hne]) (by simp)
    have hi : i = z.cps.size := by
      have : z.cps.toList.length = i := hg
      simpa using this.symm
    rw [hi] at he hit
    exact G.stops s _ E ⟨he, hit⟩ fun h' tk hk _ => I.turnedL (t' := tk) (ch := [e, it]) hk hf
  self := fun A i s Q E st h => let ⟨⟨_, he⟩, _⟩ := st; wpAny_pyIter_enum he h
def iEnumS (ta : TA) : TI := fun σ H R => ta σ H fun vs H1 => ∃ z, vs = [.str z] ∧ R (IteS z) H1
theorem pi_enumS {X : Cx} {e : Expr} {ta : TA} {p pos tpos : Pos} {elts : List Expr} {kk : Nat} (hg : Gl X "enumerate") (hm : X.mg "enumerate" = none) (ha : PA X [e] ta) (hs : starEach [e] X.env = [(false, eval e X.env)] := by rfl) :
    PI X (.Tuple elts kk tpos) (.Call (.Name "enumerate" p) [e] [] pos) (iEnumS ta) := by
  refine ⟨fun pins s σ H R I h => ?_⟩
  refine Call_ (ld_blt I hg hm boot_enumerate (PyProof.Rows.callWith_type1 (thn (ha.run pos pins s σ H _ I h) fun us s1 ⟨vs, H1, I1, r1, q1⟩ => ?_) hs rfl))
  obtain ⟨z, rfl, q⟩ := q1
  obtain ⟨u, rfl, ru⟩ := vals1 r1
  obtain ⟨tk0, rfl⟩ := ru
  refine call_enum1 (begins_text z tk0) trivial fun h' he hit hk => wpAny_pyIter_enum he ?_
  have I2 : Inv X pins σ H1 { s1 with heap := h' } := I1.kept (t' := s1.toks) hk
  refine ⟨s1.heap.objs.size + 1, [s1.heap.objs.size + 1, s1.heap.objs.size], _, _, H1, rfl, I2, turn_enumS z tk0 (s1.heap.objs.size + 1) s1.heap.objs.size, ⟨⟨.none, by rw [Int.zero_add]; exact he⟩, ⟨_, hit, rfl, rfl⟩, Nat.succ_ne_self _⟩, fun b hb => ?_, q⟩
  have hle : s1.heap.objs.size ≤ b := by
    rcases (by simpa using hb : b = s1.heap.objs.size + 1 ∨ b = s1.heap.objs.size) with z | z <;> rw [z] <;> first | exact Nat.le_add_right _ _ | exact Nat.le_refl _
  exact I1.fpOk hle (I1.hok.fresh hle)
theorem walk_enumS {z : Str} : Walk (IteS z) z.cps.toList.length (fun _ => True) (YPair (fun i => some (.int (i : Nat))) (fun i => z.cps.toList[i]?.map fun c => .str ⟨#[c]⟩)) := by
  refine ⟨fun i _ hi _ => ⟨z.cps.toList[i], by simp [hi]⟩, fun _ _ => rfl, fun i H v H' _ _ y => ?_⟩
  obtain ⟨T, c, h1, h2, h3, h4⟩ := y
  exact ⟨T, .int (i : Nat), .str ⟨#[c]⟩, h1, h2, h3, rfl, by show z.cps.toList[i]?.map _ = _; rw [h4]; rfl⟩
/-- y in d, y not in d, d[y], d[y] = v: d a dict of nested keys -/
def tNNotIn (P : Program) (w : World) (ty td : TE) : TE := fun σ H Q => ty σ H fun y H1 => td σ H1 fun x H2 => ∃ a b rows k, x = .ref a ∧ y = .ref b ∧ H2 a = some (NDO P w a rows) ∧ KeysAt H2 rows ∧ NkAt H2 (.ref b) k ∧ k.depth ≤ 8 ∧ Q (.bl (!(valN rows k).isSome)) H2
def tNGet (P : Program) (w : World) (td ty : TE) : TE := fun σ H Q => td σ H fun x H1 => ty σ H1 fun y H2 => ∃ a b rows k v, x = .ref a ∧ y = .ref b ∧ H2 a = some (NDO P w a rows) ∧ KeysAt H2 rows ∧ NkAt H2 (.ref b) k ∧ k.depth ≤ 8 ∧ valN rows k = some v ∧ Q v H2
def sNPut (P : Program) (w : World) (td ty tv : TE) : TS := fun D σ H => tv σ H fun v H1 => td σ H1 fun x H2 => ty σ H2 fun y H3 => ∃ a b rows k, x = .ref a ∧ y = .ref b ∧ H3 a = some (NDO P w a rows) ∧ KeysAt H3 rows ∧ NkAt H3 (.ref b) k ∧ k.depth ≤ 8 ∧
  rows.length < sizeLine ∧ valN rows k = none ∧ D.nx σ (upd H3 a (NDO P w a (rows ++ [(k, b, v)])))
section
variable {X : Cx} {o i value : Expr} {pos pos' : Pos} {td ty tv : TE}
theorem nroom {A : Around} (hu : A.units + 16 < cLine) : (nestedKind X.prog X.w).room A.in1 := by
  show A.units + 1 + 8 < cLine
  omega
theorem pc_nnotin (hu : X.A.units + 16 < cLine) (hi : PE X i ty) (ho : PE X o td) : PC X .NotIn i o (tNNotIn X.prog X.w ty td) := by
  refine ⟨fun pins s σ H Q I h => ?_⟩
  refine thn (hi.run pins s σ H _ I h) fun iv s1 ⟨y, H1, I1, ry, q1⟩ => thn (ho.run pins s1 σ H1 _ I1 q1) fun u s2 ⟨x, H2, I2, rx, a, b, rows, k, ex, ey, ha, ks, nk, dep, q2⟩ => ?_
  subst ex ey
  cases rx
  cases ry
  obtain ⟨lo, zl, xs, rel, dd⟩ := nd_dict I2 ha ks
  refine wpAny_notIn_heap (knd := nestedKind X.prog X.w) (nroom hu) ⟨nk_is I2 k nk rfl, dep⟩ lo dd ?_
  rcases val_at (k := k) rel with ⟨h1, h2⟩ | ⟨v, p', h1, h2, h3⟩
  · rw [h2]
    rw [h1] at q2
    exact ⟨.bl true, H2, I2.tok _, rfl, q2⟩
  · rw [h2]
    rw [h1] at q2
    exact ⟨.bl false, H2, I2.tok _, rfl, q2⟩
theorem pe_nget (hu : X.A.units + 16 < cLine) (ho : PE X o td) (hi : PE X i ty) (hs : NoSl i) : PE X (.Subscript o i pos) (tNGet X.prog X.w td ty) := by
  refine ⟨fun pins s σ H Q I h => ?_⟩
  refine subD_of PySem.F.slot_dict_getitem.lookup hs (thn (ho.run pins s σ H _ I h) fun u s1 ⟨x, H1, I1, rx, q1⟩ => thn (hi.run pins s1 σ H1 _ I1 q1) fun iv s2 ⟨y, H2, I2, ry, a, b, rows, k, v, ex, ey, ha, ks, nk, dep, hv, q2⟩ => ?_)
  subst ex ey
  cases rx
  cases ry
  obtain ⟨lo, zl, xs, rel, dd⟩ := nd_dict I2 ha ks
  refine ⟨dd.typeIs, ?_⟩
  rcases val_at (k := k) rel with ⟨h1, _⟩ | ⟨v', p', h1, h2, h3⟩
  · rw [hv] at h1
    cases h1
  · rw [hv] at h1
    cases h1
    exact wpAny_getItem_heap (knd := nestedKind X.prog X.w) (nroom hu) ⟨nk_is I2 k nk rfl, dep⟩ dd h2 ⟨v, H2, I2.tok _, h3, q2⟩
theorem ps_nput (hu : X.A.units + 16 < cLine) (ho : PE X o td) (hi : PE X i ty) (hv : PE X value tv) (hs : swapsWith value (some (.Subscript o i pos')) pos.line X.env = pure false) :
    PS X (.Assign [.Subscript o i pos'] value pos) (sNPut X.prog X.w td ty tv) := by
  refine ⟨fun pins s σ H D I h => ?_⟩
  refine wpAny_Assign_Subscript (thn (hv.run pins s σ H _ I h) fun r s1 ⟨v, H1, I1, rv, q1⟩ => thn (ho.run pins s1 σ H1 _ I1 q1) fun u s2 ⟨x, H2, I2, rx, q2⟩ => thn (hi.run pins s2 σ H2 _ I2 q2) fun iv s3 ⟨y, H3, I3, ry, a, b, rows, k, ex, ey, ha, ks, nk, dep, few, hn, q3⟩ => ?_) hs
  subst ex ey
  cases rx
  cases ry
  obtain ⟨lo, zl, xs, rel, dd⟩ := nd_dict I3 ha ks
  have hl := paired_len rel
  refine wpAny_setItem_heap (knd := nestedKind X.prog X.w) (hsz := by rw [← hl]; exact zl) (nroom hu) ⟨nk_is I3 k nk rfl, dep⟩ dd fun h' dd' sb => ?_
  rcases val_at (k := k) rel with ⟨_, h2⟩ | ⟨v', p', h1, _, _⟩
  · rw [storedH_new h2] at dd'
    obtain ⟨o', es, ep, e1, e2, e3, e4, _, e5⟩ := dd'
    have new : NdAt X.prog X.w a (rows ++ [(k, b, v)]) h' := ⟨lo, by rw [List.length_append]; exact few, xs ++ [(k, b, r)], paired_snoc rel ⟨rfl, rfl, rv⟩, o', es, ep, e1, e2, e3, e4, e5⟩
    exact ⟨σ, _, I3.write (e := a) (by rw [ha]; exact True.intro) (.inl rfl) (fun c u hc hu => (sb.2 c hc).trans hu) ⟨o', e1⟩ (nd_new new), q3⟩
  · rw [hn] at h1
    cases h1
end
end SWL
set_option Elab.async false
set_option linter.all false
set_option maxRecDepth 100000
set_option maxHeartbeats 4000000
namespace SWL
open PySem PySem.Spec PyProof.Rows L2 LamX
/-! nested keys as data; d[k] = v where the key may be there; sorted(a dict of nested keys) -/
section
variable {K : PySem.W.Frag} {H : Hp}
mutual
theorem nk_dp : ∀ (k : NestedKey) {x : V}, NkAt H x k → Dp K H x k.data
  | _, _, .int i => .int i
  | _, _, .str z => .str z
  | .tup ks, _, .tup h t => .tup (.inl (.inl h)) (nk_dpAll ks t)
theorem nk_dpAll : ∀ (ks : List NestedKey) {xs : List V}, NkAll H xs ks → DpAll K H xs (NestedKey.datas ks)
  | _, _, .nil => .nil
  | k :: ks, _, .cons h t => .cons (nk_dp k h) (nk_dpAll ks t)
end
end
mutual
theorem data_depth : ∀ k : NestedKey, k.data.depth = k.depth
  | .none => rfl
  | .num _ => rfl
  | .text _ => rfl
  | .tup ks => by
    show PyData.depth (.tuple (NestedKey.datas ks)) = NestedKey.depthAll ks + 1
    rw [PyData.depth, datas_depth ks]
theorem datas_depth : ∀ ks : List NestedKey, PyData.depthAll (NestedKey.datas ks) = NestedKey.depthAll ks
  | [] => rfl
  | k :: ks => by
    show PyData.depthAll (k.data :: NestedKey.datas ks) = max k.depth (NestedKey.depthAll ks)
    rw [PyData.depthAll, data_depth k, datas_depth ks]
end
mutual
theorem eqv_data : ∀ a b : NestedKey, PyData.eqv a.data b.data = NestedKey.beq a b
  | .none, b => by cases b <;> simp [NestedKey.data, NestedKey.beq, PyData.eqv]
  | .num _, b => by cases b <;> simp [NestedKey.data, NestedKey.beq, PyData.eqv, Bool.beq_eq_decide_eq]
  | .text _, b => by cases b <;> simp [NestedKey.data, NestedKey.beq, PyData.eqv, Bool.beq_eq_decide_eq]
  | .tup as, .tup bs => by
    show PyData.eqv (.tuple (NestedKey.datas as)) (.tuple (NestedKey.datas bs)) = NestedKey.beqAll as bs
    rw [PyData.eqv, eqv_datas as bs]
  | .tup as, .none => by simp [NestedKey.data, NestedKey.beq, PyData.eqv]
  | .tup as, .num _ => by simp [NestedKey.data, NestedKey.beq, PyData.eqv]
  | .tup as, .text _ => by simp [NestedKey.data, NestedKey.beq, PyData.eqv]
theorem eqv_datas : ∀ as bs : List NestedKey, PyData.eqvAll (NestedKey.datas as) (NestedKey.datas bs) = NestedKey.beqAll as bs
  | [], [] => by simp [NestedKey.datas, NestedKey.beqAll, PyData.eqvAll]
  | [], _ :: _ => by simp [NestedKey.datas, NestedKey.beqAll, PyData.eqvAll]
  | _ :: _, [] => by simp [NestedKey.datas, NestedKey.beqAll, PyData.eqvAll]
  | a :: as, b :: bs => by
    show PyData.eqvAll (a.data :: NestedKey.datas as) (b.data :: NestedKey.datas bs) = (NestedKey.beq a b && NestedKey.beqAll as bs)
    rw [PyData.eqvAll, eqv_data a b, eqv_datas as bs]
end
theorem eqv_decide (a b : NestedKey) : PyData.eqv a.data b.data = decide (a = b) := by rw [eqv_data, NestedKey.decide_eq]
/-- the order of nested keys that are alike -/
def ltN (x y : NestedKey) : Prop := PySem.W.dataLt x.data y.data = true
theorem ltN_asym (a b : NestedKey) (h : ltN a b) : ¬ ltN b a := fun k => by
  have h1 : (listOrd itemOrd).blt (PySem.W.keyToks a.data) (PySem.W.keyToks b.data) = true := h
  have h2 : (listOrd itemOrd).blt (PySem.W.keyToks b.data) (PySem.W.keyToks a.data) = true := k
  have := (listOrd itemOrd).trans _ _ _ h1 h2
  rw [(listOrd itemOrd).irrefl] at this
  cases this
theorem ltN_tri {a b : NestedKey} (al : PySem.W.alike a.data b.data = true) (h : PySem.W.dataLt b.data a.data = false) (ne : a ≠ b) : ltN a b := by
  unfold ltN
  cases e : PySem.W.dataLt a.data b.data with
  | true => rfl
  | false =>
    have t : PySem.W.keyToks a.data = PySem.W.keyToks b.data := (listOrd itemOrd).total _ _ e h
    have ev : PyData.eqv a.data b.data = false := by rw [eqv_decide]; exact decide_eq_false ne
    have q := (PySem.W.toks_eqv a.data b.data al).2 ev [] [.inl 0]
    rw [t, PySem.W.lex_pre] at q
    have ir : PyProof.Rows.lexLt itemOrd (PySem.W.keyToks b.data) (PySem.W.keyToks b.data) = false := (listOrd itemOrd).irrefl _
    rw [ir] at q
    cases q
theorem pw_ltN : ∀ {ys : List NestedKey}, (∀ x ∈ ys, ∀ y ∈ ys, PySem.W.alike x.data y.data = true) → ys.Pairwise (fun x y => PySem.W.dataLt y.data x.data = false) → ys.Nodup → ys.Pairwise ltN
  | [], _, _, _ => .nil
  | y :: ys, al, pw, nd => by
    obtain ⟨n1, n2⟩ := List.nodup_cons.mp nd
    obtain ⟨p1, p2⟩ := List.pairwise_cons.mp pw
    refine List.pairwise_cons.mpr ⟨fun z hz => ltN_tri (al _ List.mem_cons_self _ (List.mem_cons_of_mem _ hz)) (p1 z hz) fun e => n1 (e ▸ hz), pw_ltN (fun x hx z hz => al x (List.mem_cons_of_mem _ hx) z (List.mem_cons_of_mem _ hz)) p2 n2⟩
def sortN (ks : List NestedKey) : List NestedKey := ks.mergeSort (PySem.W.dataLe false NestedKey.data)
theorem sortN_mem {ks : List NestedKey} {x : NestedKey} : x ∈ sortN ks ↔ x ∈ ks := (List.mergeSort_perm _ _).mem_iff
theorem sortN_rise {ks : List NestedKey} (al : ∀ x ∈ ks, ∀ y ∈ ks, PySem.W.alike x.data y.data = true) (nd : ks.Nodup) : (sortN ks).Pairwise ltN := by
  refine pw_ltN (fun x hx y hy => al x (sortN_mem.mp hx) y (sortN_mem.mp hy)) ?_ ((List.mergeSort_perm _ _).nodup_iff.mpr nd)
  refine List.Pairwise.imp (fun {x y} hxy => ?_) (PySem.W.sort_pairwise (PySem.W.sortLe_total (listOrd itemOrd) false fun y : NestedKey => PySem.W.keyToks y.data) ks)
  have h2 : (!PySem.W.dataLt y.data x.data) = true := hxy
  simpa using h2
/-- keys, each once, as they first come -/
def oneN (acc : List NestedKey) (k : NestedKey) : List NestedKey := if k ∈ acc then acc else acc ++ [k]
def firstsN (ks : List NestedKey) : List NestedKey := ks.foldl oneN []
theorem firstsN_snoc (ks : List NestedKey) (k : NestedKey) : firstsN (ks ++ [k]) = oneN (firstsN ks) k := by
  unfold firstsN
  rw [List.foldl_append]
  rfl
theorem oneN_mem {acc : List NestedKey} {k x : NestedKey} : x ∈ oneN acc k ↔ x ∈ acc ∨ x = k := by
  unfold oneN
  split
  · constructor
    · exact .inl
    · rintro (h | rfl)
      · exact h
      · assumption
  · simp
theorem oneN_nd {acc : List NestedKey} {k : NestedKey} (h : acc.Nodup) : (oneN acc k).Nodup := by
  unfold oneN
  split
  · exact h
  · refine List.nodup_append.mpr ⟨h, by simp, fun a ha b hb e => ?_⟩
    rw [List.mem_singleton.mp hb] at e
    rw [e] at ha
    contradiction
theorem firstsN_mem (ks : List NestedKey) {x : NestedKey} : x ∈ firstsN ks ↔ x ∈ ks := by
  have gen : ∀ (ks acc : List NestedKey), x ∈ ks.foldl oneN acc ↔ x ∈ acc ∨ x ∈ ks := by
    intro ks
    induction ks with
    | nil => intro acc; simp
    | cons k ks ih =>
      intro acc
      rw [List.foldl_cons, ih, oneN_mem, List.mem_cons, or_assoc]
  unfold firstsN
  rw [gen]
  simp
theorem firstsN_nd (ks : List NestedKey) : (firstsN ks).Nodup := by
  have gen : ∀ (ks acc : List NestedKey), acc.Nodup → (ks.foldl oneN acc).Nodup := by
    intro ks
    induction ks with
    | nil => intro acc h; exact h
    | cons k ks ih => intro acc h; exact ih _ (oneN_nd h)
  exact gen ks [] .nil
theorem firstsN_len (ks : List NestedKey) : (firstsN ks).length ≤ ks.length := by
  have gen : ∀ (ks acc : List NestedKey), (ks.foldl oneN acc).length ≤ acc.length + ks.length := by
    intro ks
    induction ks with
    | nil => intro acc; exact Nat.le_refl _
    | cons k ks ih =>
      intro acc
      have h1 := ih (oneN acc k)
      have h2 : (oneN acc k).length ≤ acc.length + 1 := by
        unfold oneN
        split
        · omega
        · rw [List.length_append]
          exact Nat.le_refl _
      rw [List.foldl_cons, List.length_cons]
      omega
  have := gen ks []
  unfold firstsN
  simpa using this
/-- the rows of a dict, k's value set -/
def putN (rows : List NRow) (k : NestedKey) (b : Addr) (v : V) : List NRow := if (valN rows k).isSome = true then rows.map fun r => if r.1 = k then (r.1, r.2.1, v) else r else rows ++ [(k, b, v)]
theorem valN_isSome (k : NestedKey) : ∀ rows : List NRow, ((valN rows k).isSome = true) ↔ k ∈ rows.map (·.1)
  | [] => by simp [valN]
  | r :: rows => by
    have ih := valN_isSome k rows
    unfold valN at ih ⊢
    by_cases c : r.1 = k
    · rw [List.find?_cons_of_pos (by exact decide_eq_true c)]
      simp [c]
    · rw [List.find?_cons_of_neg (by simpa using c), ih, List.map_cons, List.mem_cons]
      constructor
      · exact .inr
      · rintro (h | h)
        · exact absurd h.symm c
        · exact h
theorem putN_keys (rows : List NRow) (k : NestedKey) (b : Addr) (v : V) : (putN rows k b v).map (·.1) = oneN (rows.map (·.1)) k := by
  unfold putN oneN
  by_cases c : (valN rows k).isSome = true
  · rw [if_pos c, if_pos ((valN_isSome k rows).mp c), List.map_map]
    refine List.map_congr_left fun r _ => ?_
    simp only [Function.comp]
    split <;> rfl
  · rw [if_neg c, if_neg (fun h => c ((valN_isSome k rows).mpr h)), List.map_append]
    rfl
theorem putN_len (rows : List NRow) (k : NestedKey) (b : Addr) (v : V) : (putN rows k b v).length ≤ rows.length + 1 := by
  unfold putN
  split
  · rw [List.length_map]; omega
  · rw [List.length_append]; exact Nat.le_refl _
theorem putN_keysAt {H : Hp} {rows : List NRow} {k : NestedKey} {b : Addr} {v : V} (h : KeysAt H rows) (hk : NkAt H (.ref b) k) (hd : k.depth ≤ 8) : KeysAt H (putN rows k b v) := by
  intro r hr
  unfold putN at hr
  split at hr
  · obtain ⟨r0, h0, rfl⟩ := List.mem_map.mp hr
    split <;> exact h r0 h0
  · rcases List.mem_append.mp hr with h1 | h1
    · exact h r h1
    · rw [List.mem_singleton.mp h1]
      exact ⟨hk, hd⟩
theorem paired_put {k : NestedKey} {v : V} {r : Value} (rv : RelV v r) : ∀ {rows : List NRow} {xs : List NRaw}, Paired RowIs rows xs → Paired RowIs (rows.map fun r => if r.1 = k then (r.1, r.2.1, v) else r) (xs.map (putAt k r))
  | _, _, .nil => .nil
  | p :: ps, q :: qs, .cons h t => by
    refine .cons ?_ (paired_put rv t)
    obtain ⟨h1, h2, h3⟩ := h
    unfold putAt
    dsimp only
    by_cases c : p.1 = k
    · rw [if_pos c, if_pos (h1.symm.trans c)]
      exact ⟨h1, h2, rv⟩
    · rw [if_neg c, if_neg (fun e => c (h1.trans e))]
      exact ⟨h1, h2, h3⟩
def sNSet (P : Program) (w : World) (td ty tv : TE) : TS := fun D σ H => tv σ H fun v H1 => td σ H1 fun x H2 => ty σ H2 fun y H3 => ∃ a b rows k, x = .ref a ∧ y = .ref b ∧ H3 a = some (NDO P w a rows) ∧ KeysAt H3 rows ∧ NkAt H3 (.ref b) k ∧ k.depth ≤ 8 ∧
  rows.length < sizeLine ∧ D.nx σ (upd H3 a (NDO P w a (putN rows k b v)))
def rSortN (P : Program) (w : World) : List V → Hp → VK → Prop := fun xs H Q => ∃ a rows, xs = [.ref a] ∧ H a = some (NDO P w a rows) ∧ KeysAt H rows ∧ (∀ x ∈ rows, ∀ y ∈ rows, PySem.W.alike x.1.data y.1.data = true) ∧ (∀ r ∈ rows, ∃ k ks, r.1 = .tup (k :: ks)) ∧
  ∀ (ys : List NRow) p, ys = rows.mergeSort (PySem.W.dataLe false fun r : NRow => r.1.data) → H p = none → Q (.ref p) (upd H p (.lst (ys.map fun r => V.ref r.2.1)))
theorem each_nrefs : ∀ {us : List Value} {ys : List NRow}, PySem.W.EachIs (fun v (y : NRow) => v = Value.ref y.2.1) us ys → Vals (ys.map fun y => V.ref y.2.1) us
  | _, _, .nil => .nil
  | _, _, .cons h t => by
    subst h
    exact .cons rfl (each_nrefs t)
theorem paired_at {α β : Type} {R : α → β → Prop} : ∀ {l : List α} {m : List β}, Paired R l m → ∀ {i : Nat} {b : β}, m[i]? = some b → ∃ a, l[i]? = some a ∧ R a b
  | _, _, .nil, i, b, h => by simp at h
  | _, _, .cons r t, 0, b, h => ⟨_, rfl, by cases (Option.some.inj h); exact r⟩
  | _, _, .cons r t, i + 1, b, h => paired_at t (i := i) h
section
variable {X : Cx} {o i value : Expr} {pos pos' : Pos} {td ty tv : TE}
mutual
theorem nk_reads {pins : List (Addr × Obj)} {σ : L2.St} {H : Hp} {s : Shared} (I : Inv X pins σ H s) : ∀ (k : NestedKey) {x : V} {u : Value}, NkAt H x k → RelV x u → Reads s.heap u k.data []
  | _, _, _, .int i, r => by obtain ⟨t, rfl⟩ := r; exact .int i t
  | _, _, _, .str z, r => by obtain ⟨t, rfl⟩ := r; exact .str z t
  | .tup ks, _, _, @NkAt.tup _ a xs _ h t, r => by
    cases r
    obtain ⟨_, its, rv, o, ho, hc, n, hd⟩ := (show ObjOk X.prog X.w H s.heap a (.tup xs) from I.hok _ _ h)
    exact .tuple ho hc hd (by rw [List.toList_toArray]; exact nk_readsAll I ks t rv)
theorem nk_readsAll {pins : List (Addr × Obj)} {σ : L2.St} {H : Hp} {s : Shared} (I : Inv X pins σ H s) : ∀ (ks : List NestedKey) {xs : List V} {us : List Value}, NkAll H xs ks → Vals xs us → ReadsAll s.heap us (NestedKey.datas ks) []
  | _, _, _, .nil, r => by cases r; exact .nil
  | k :: ks, _, _, .cons h t, r => by
    cases r with
    | cons r1 r2 => exact .cons (as := []) (bs := []) (nk_reads I k h r1) (nk_readsAll I ks t r2)
end
theorem ps_nset (hu : X.A.units + 16 < cLine) (ho : PE X o td) (hi : PE X i ty) (hv : PE X value tv) (hs : swapsWith value (some (.Subscript o i pos')) pos.line X.env = pure false) :
    PS X (.Assign [.Subscript o i pos'] value pos) (sNSet X.prog X.w td ty tv) := by
  refine ⟨fun pins s σ H D I h => ?_⟩
  refine wpAny_Assign_Subscript (thn (hv.run pins s σ H _ I h) fun r s1 ⟨v, H1, I1, rv, q1⟩ => thn (ho.run pins s1 σ H1 _ I1 q1) fun u s2 ⟨x, H2, I2, rx, q2⟩ => thn (hi.run pins s2 σ H2 _ I2 q2) fun iv s3 ⟨y, H3, I3, ry, a, b, rows, k, ex, ey, ha, ks, nk, dep, few, q3⟩ => ?_) hs
  subst ex ey
  cases rx
  cases ry
  obtain ⟨lo, zl, xs, rel, dd⟩ := nd_dict I3 ha ks
  have hl := paired_len rel
  refine wpAny_setItem_heap (knd := nestedKind X.prog X.w) (hsz := by rw [← hl]; exact zl) (nroom hu) ⟨nk_is I3 k nk rfl, dep⟩ dd fun h' dd' sb => ?_
  have pr : Paired RowIs (putN rows k b v) (storedH xs k b r) := by
    unfold putN
    rcases val_at (k := k) rel with ⟨h1, h2⟩ | ⟨v', p', h1, h2, _⟩
    · rw [if_neg (by rw [h1]; exact Bool.false_ne_true), storedH_new h2]
      exact paired_snoc rel ⟨rfl, rfl, rv⟩
    · rw [if_pos (by rw [h1]; rfl), storedH_old h2]
      exact paired_put rv rel
  obtain ⟨o', es, ep, e1, e2, e3, e4, _, e5⟩ := dd'
  have new : NdAt X.prog X.w a (putN rows k b v) h' := ⟨lo, by have := putN_len rows k b v; omega, storedH xs k b r, pr, o', es, ep, e1, e2, e3, e4, e5⟩
  exact ⟨σ, _, I3.write (e := a) (by rw [ha]; exact True.intro) (.inl rfl) (fun c u hc hu => (sb.2 c hc).trans hu) ⟨o', e1⟩ (nd_new new), q3⟩
theorem cr_sortedN (hc : X.calm = true) (hu : X.A.units + 64 < cLine) : CallR X (.builtin "sorted") (rSortN X.prog X.w) := by
  intro pins s σ H xs us Q I r h
  obtain ⟨d, rows, rfl, ha, ks, hal, hne, q⟩ := h
  rw [Vals.ref1 r]
  obtain ⟨lo, hz, xs, rel, hd⟩ := nd_dict I ha ks
  have hl := paired_len rel
  have hh := I.ok.hd hc
  obtain ⟨es, ep, hr, hsz, hent⟩ := hd.raw
  have e0 : es.size ≤ sizeLine := by rw [hsz, ← hl]; exact hz
  refine Calls.call_function_entry kind_sorted plain_sorted entry_sorted (args_sorted1 _) ?_
  unfold Builtin.«sorted»
  refine wpAny_bind (m := checkCount "sorted" 1 1 _) (wpAny_pure ?_)
  refine wpAny_bind (PySem.W.kdu_collect (A := X.A.in1) (KdlSrc.rawDict lo) hh hr e0 fun h' tk acc hk hacc => ?_)
  have hal2 : acc.size = rows.length := by rw [hacc.1, hsz, hl]
  have hE : PySem.W.EachIs (fun v (y : NRow) => v = Value.ref y.2.1) acc.toList rows := by
    refine PySem.W.EachIs.of_zip (by rw [Array.length_toList]; exact hal2) fun p hp => ?_
    obtain ⟨i, hi⟩ := List.getElem?_of_mem hp
    rw [List.getElem?_zip_eq_some] at hi
    obtain ⟨hi', e⟩ := hacc.2 i p.1 (by rw [← Array.getElem?_toList]; exact hi.1)
    obtain ⟨y, hy, e2, _, _⟩ := hent i hi'
    obtain ⟨a, ea, ra⟩ := paired_at rel hy
    rw [hi.2] at ea
    cases ea
    rw [ra.2.1]
    exact e.trans e2
  have I1 : Inv X pins σ H { s with heap := h', toks := tk } := I.kept hk
  have hzl : acc.toList.length ≤ sizeLine := by rw [Array.length_toList, hal2]; exact hz
  refine wpAny_bind (wpAny_newList ?_ hzl)
  have hoL : (h'.push (seqObj "list" acc.toList.toArray 0)).get? h'.objs.size = some (seqObj "list" acc.toList.toArray 0) := Heap.get?_push_size _ rfl
  have kp : ∀ b o, s.heap.get? b = some o → (h'.push (seqObj "list" acc.toList.toArray 0)).get? b = some o := fun b o e => Heap.get?_push_of_some _ (hk b o e)
  show wpAny _ _ _ _ _ { s with heap := h'.push (seqObj "list" acc.toList.toArray 0), toks := tk }
  have hR : PySem.W.EachIs (fun v (y : NRow) => ∃ as, Reads (h'.push (seqObj "list" acc.toList.toArray 0)) v y.1.data as ∧ h'.objs.size ∉ as) acc.toList rows := by
    refine (PySem.W.each_mem hE).mono fun v y ⟨e, hy⟩ => ⟨[], ?_, by simp⟩
    subst e
    exact PyProof.Rows.Reads.keeps kp (nk_reads I _ (ks y hy).1 rfl)
  refine wpAny_bind (wpAny_holding ?_)
  refine PySem.W.list_sort_data (s := { s with heap := h'.push (seqObj "list" acc.toList.toArray 0), toks := tk }) (enc := fun y : NRow => y.1.data) (bs := rows) hoL hE hR (fun dd hdd dd' hdd' => ?_) (.inl fun dd hdd => ?_) hz (fun y hy => ?_) fun out hlen ho => ?_
  · obtain ⟨x, hx, rfl⟩ := List.mem_map.mp hdd
    obtain ⟨y, hy, rfl⟩ := List.mem_map.mp hdd'
    exact hal x hx y hy
  · obtain ⟨y, hy, rfl⟩ := List.mem_map.mp hdd
    obtain ⟨k, kk, e⟩ := hne y hy
    exact ⟨k.data, NestedKey.datas kk, by show y.1.data = _; rw [e]; rfl⟩
  · rw [data_depth]
    have := (ks y hy).2
    show X.A.units + 1 + 1 + y.1.depth < cLine
    omega
  · obtain ⟨c, hc2⟩ := sortedHeap_at (vs := acc.toList) (out := out.toArray) hoL
    have hv := each_nrefs ho
    have hlen2 : ((rows.mergeSort (PySem.W.dataLe false fun y : NRow => y.1.data)).map fun y => V.ref y.2.1).length ≤ sizeLine := by
      rw [List.length_map, List.length_mergeSort]
      exact hz
    refine wpAny_pure ⟨_, rfl, .ref h'.objs.size, upd H h'.objs.size _, I1.laid (t' := tk) (fun b u e => ?_) (Nat.le_refl _) (show ObjOk X.prog X.w _ _ _ (.lst _) from ⟨hlen2, out, c, hv, hc2⟩), rfl, q _ _ rfl (I1.hok.fresh (Nat.le_refl _))⟩
    have hb : b < h'.objs.size := Heap.lt_size e
    exact (sortedHeap_old (Nat.ne_of_lt hb) (by rw [size_push']; exact Nat.lt_succ_of_lt hb)).trans (Heap.get?_push_of_some _ e)
end
end SWL
set_option Elab.async false
set_option linter.all false
set_option maxRecDepth 100000
set_option maxHeartbeats 4000000
namespace SWL
open PySem PySem.Spec PyProof.Rows L2 LamX
/-! one, *others = a tuple -/
def gStar (K : PySem.W.Frag) (t1 t2 : TG) : TG := fun v σ H Q => ∃ (a : Addr) (x : V) (xs : List V), v = .ref a ∧ SqT K H a (x :: xs) ∧ xs.length ≤ 10000 ∧ ∀ D, H D = none → t1 x σ (upd H D (.lst xs)) fun σ1 H1 => t2 (.ref D) σ1 H1 Q
section
variable {X : Cx}
theorem pg_star {e e2 : Expr} {k : Nat} {p pos : Pos} {t1 t2 : TG} (hc : X.calm = true) (h1 : PG X e t1) (h2 : PG X e2 t2) (hne : assignEach [e, .Starred e2 p] X.env = [(false, assign e X.env), (true, assign e2 X.env)] := by rfl) :
    PG X (.Tuple [e, .Starred e2 p] k pos) (gStar X.K t1 t2) := by
  refine ⟨fun pins s σ H v u Q I r hw => ?_⟩
  obtain ⟨a, x, xs, rfl, hq, hl, hw⟩ := hw
  cases r
  obtain ⟨its, rv, ht, hz⟩ := I.tuple hq
  cases rv with
  | @cons _ u1 _ us r1 rr =>
  have hus : us.length ≤ 10000 := by rw [← rr.length]; exact hl
  have sz : sizeLine = 16777216 := sizeLine_eq
  have ha : a < s.heap.objs.size := by obtain ⟨o, ho, _⟩ := ht; exact Heap.lt_size ho
  rw [assign_Tuple]
  refine wpAny_bind (wpAny_standAt ?_)
  unfold unpack
  rw [hne]
  refine wpAny_bind (wpAny_holding ?_)
  show wpAny _ _ (unpackItems (.ref a) 2 (some 1)) _ _ _
  unfold unpackItems
  refine wpAny_bind ?_
  unfold notIterableAtAll
  refine wpAny_bind (wpAny_specialOf ht.typeIs slot_tuple_iter.lookup (wpAny_pure ?_))
  rw [if_neg (by decide)]
  refine wpAny_bind (wpAny_holding (iter_tuple ht ?_))
  have ht1 : IsTup (s.heap.push { cls := .type "tuple_iterator", data := .fields #[.ref a, .int 0 0] }) a (u1 :: us).toArray := ht.push _
  refine wpAny_bind (wpAny_holding (draw_tuple (Nat.ne_of_lt ha) 1 0 _ _ ⟨_, Heap.get?_push_size _ rfl, rfl, rfl⟩ ht1 (by simp) fun h1' hit hs1 => ?_))
  have ht2 := ht1.extBut hs1.extBut (Nat.ne_of_lt ha)
  rw [Nat.zero_add] at hit
  obtain ⟨oi, hoi, _⟩ := id hit
  obtain ⟨ot, hot, _⟩ := id ht2
  show wpAny _ _ (if ((u1 :: us).drop 0 |>.take 1).length < 1 then _ else _) _ _ _
  rw [if_neg (by simp)]
  refine wpAny_bind (wpAny_holding (PySem.W.kun_collect (s := { s with heap := h1' }) (T := "tuple_iterator") (.inr (.inr (.inr rfl))) (Walks.tuple (A := X.A.in1) (I.ok.hd hc) s.heap.objs.size a (Nat.ne_of_lt ha) (u1 :: us).toArray) (fun j u st => st.1.typeIs) (k := 1) (by simp) ⟨hit, ht2⟩ (Heap.lt_size hoi) (Heap.lt_size hot) (fun h2' tk hk => ?_) (by simp; omega)))
  show wpAny _ _ (if us.length < 0 then _ else _) _ _ _
  rw [if_neg (by omega)]
  refine wpAny_bind (wpAny_newList ?_ (by show (us.take (us.length - 0)).length ≤ sizeLine; rw [List.length_take]; omega))
  have keep : ∀ b o, s.heap.get? b = some o → h2'.get? b = some o := fun b o eb => hk b o (Nat.ne_of_lt (Heap.lt_size eb)) (hs1.extBut b o (Nat.ne_of_lt (Heap.lt_size eb)) (Heap.get?_push_of_some _ eb))
  have I2 : Inv X pins σ H { s with heap := h2', toks := tk } := I.kept keep
  have I3 : Inv X pins σ (upd H h2'.objs.size (.lst xs)) { s with heap := h2'.push { cls := .type "list", data := .seq us.toArray }, toks := tk } :=
    I2.laid (t' := tk) (o := .lst xs) (fun b ob q => Heap.get?_push_of_some _ q) (Nat.le_refl _) ⟨by omega, us, 0, rr, Heap.get?_push_size _ rfl⟩
  have e1 : (us.take (us.length - 0)) = us := by rw [Nat.sub_zero, List.take_length]
  have e2 : us.drop (us.length - 0) = [] := by rw [Nat.sub_zero, List.drop_length]
  show wpAny _ _ (pure (((u1 :: us).drop 0 |>.take 1) ++ [Value.ref h2'.objs.size] ++ us.drop (us.length - 0))) _ _ { s with heap := h2'.push { cls := .type "list", data := .seq (us.take (us.length - 0)).toArray }, toks := tk }
  rw [e1, e2]
  refine wpAny_pure ?_
  refine assignInOrder_cons (thn (h1.run pins _ σ _ x u1 _ I3 r1 (hw _ (I2.hok.fresh (Nat.le_refl _)))) fun _ s4 ⟨σ1, H1, I4, q4⟩ => ?_)
  refine assignInOrder_cons (thn (h2.run pins s4 σ1 H1 (.ref h2'.objs.size) _ _ I4 rfl q4) fun _ s5 q5 => ?_)
  exact assignInOrder_nil q5
end
end SWL
set_option Elab.async false
set_option linter.all false
set_option maxRecDepth 100000
set_option maxHeartbeats 4000000
namespace SWL
open PySem PySem.Spec PyProof.Rows L2 LamX
/-! list(range(i, j, k)) -/
def rgC (i k : Int) (n : Nat) : List V := (List.range n).map fun (m : Nat) => V.int (i + ((m : Nat) : Int) * k)
theorem rgC_len (i k : Int) (n : Nat) : (rgC i k n).length = n := by unfold rgC; rw [List.length_map, List.length_range]
theorem vals_rgC {i k : Int} {n : Nat} {acc : Array Value} (h : ItemsOf (fun m v => ∃ t, v = .int (i + m * k) t) acc n) : Vals (rgC i k n) acc.toList := by
  have e : acc.toList.length = n := by rw [Array.length_toList]; exact h.1
  unfold rgC
  rw [← e]
  refine vals_of_get acc.toList _ fun j u hj => ?_
  obtain ⟨t, rfl⟩ := h.2 j u (by rw [← hj, Array.getElem?_toList])
  exact ⟨t, rfl⟩
def tLstRg3 (ta : TA) : TE := fun σ H Q => ta σ H fun vs H1 => ∃ (i j k : Int) (n : Nat), vs = [.int i, .int j, .int k] ∧ RgC i j k n ∧ n ≤ 10000 ∧ ∀ q, H1 q = none → Q (.ref q) (upd H1 q (.lst (rgC i k n)))
section
variable {X : Cx}
theorem pe_listRg3 {a b c : Expr} {ta : TA} {p pos p' pos' : Pos} (hc : X.calm = true) (hg : Gl X "list") (hm : X.mg "list" = none) (hg' : Gl X "range") (hm' : X.mg "range" = none) (ha : PA X [a, b, c] ta)
    (hs : starEach [a, b, c] X.env = (false, eval a X.env) :: starEach [b, c] X.env := by rfl) (hpl : (backTo pos' (starEach [b, c] X.env)).any (·.1) = false := by rfl)
    (na : starEach [Expr.Call (.Name "range" p') [a, b, c] [] pos'] X.env = (false, eval (Expr.Call (.Name "range" p') [a, b, c] [] pos') X.env) :: starEach [] X.env := by rfl) :
    PE X (.Call (.Name "list" p) [.Call (.Name "range" p') [a, b, c] [] pos'] [] pos) (tLstRg3 ta) := by
  refine ⟨fun pins s σ H Q I h => ?_⟩
  have he : wpAny (model X.prog X.w) X.A (eval (Expr.Call (.Name "range" p') [a, b, c] [] pos') X.env) (fun x s' => ∃ r i j k n t u v H', x = .ref r ∧ IsRange s'.heap r i j k t u v ∧ Inv X pins σ H' s' ∧ RgC i j k n ∧ n ≤ 10000 ∧ ∀ q, H' q = none → Q (.ref q) (upd H' q (.lst (rgC i k n)))) X.xe s := by
    refine Call_ (ld_blt I hg' hm' boot_range (PyProof.Rows.callWith_type1 (thn (ha.run pos' pins s σ H _ I h) fun us s1 ⟨vs, H1, I1, r1, q1⟩ => ?_) hs hpl))
    obtain ⟨i, j, k, n, e, ok, hn, q⟩ := q1
    subst e
    cases r1 with
    | cons r rr =>
      cases rr with
      | cons r' rr =>
        cases rr with
        | cons r'' rr =>
          cases rr
          obtain ⟨t, rfl⟩ := r
          obtain ⟨t', rfl⟩ := r'
          obtain ⟨t'', rfl⟩ := r''
          refine call_range_3 ok.1 ?_ (.inl (PyProof.noPylong_small ok.2.1))
          exact ⟨_, i, j, k, n, _, _, _, H1, rfl, IsRange.new .., I1.kept (t' := s1.toks) fun b o e => Heap.get?_push_of_some _ e, ok, hn, q⟩
  refine Call_ (ld_blt I hg hm boot_list (PyProof.Rows.callWith_type1 (args_cons (thn he fun x s1 ⟨r, i, j, k, n, t, u, v, H1, ex, hr, I1, ok, hn, q⟩ => args_nil ?_) na) na))
  subst ex
  refine call_list_range (n := n) (I1.ok.hd hc) hr ok.2.2.1 ok.2.2.2 (by omega) fun h' tk acc c' hk e' hi => ?_
  refine ⟨.ref s1.heap.objs.size, upd H1 s1.heap.objs.size (.lst (rgC i k n)), I1.laid hk (Nat.le_refl _) (show ObjOk X.prog X.w _ _ _ (.lst (rgC i k n)) from ⟨?_, acc.toList, c', vals_rgC hi, ?_⟩), rfl, q _ (I1.hok.fresh (Nat.le_refl _))⟩
  · rw [rgC_len, sizeLine_eq]; omega
  · rw [Array.toArray_toList]; exact e'
end
end SWL
set_option Elab.async false
set_option linter.all false
set_option maxRecDepth 100000
set_option maxHeartbeats 4000000
namespace SWL
open PySem PySem.Spec PyProof.Rows L2 LamX
/-! one, *others = a list -/
def gStarL (K : PySem.W.Frag) (t1 t2 : TG) : TG := fun v σ H Q => ∃ (a : Addr) (x : V) (xs : List V), v = .ref a ∧ SqL K H a (x :: xs) ∧ xs.length ≤ 10000 ∧ ∀ D, H D = none → t1 x σ (upd H D (.lst xs)) fun σ1 H1 => t2 (.ref D) σ1 H1 Q
section
variable {X : Cx}
theorem pg_starL {e e2 : Expr} {k : Nat} {p pos : Pos} {t1 t2 : TG} (hc : X.calm = true) (h1 : PG X e t1) (h2 : PG X e2 t2) (hne : assignEach [e, .Starred e2 p] X.env = [(false, assign e X.env), (true, assign e2 X.env)] := by rfl) :
    PG X (.Tuple [e, .Starred e2 p] k pos) (gStarL X.K t1 t2) := by
  refine ⟨fun pins s σ H v u Q I r hw => ?_⟩
  obtain ⟨a, x, xs, rfl, hq, hl, hw⟩ := hw
  cases r
  obtain ⟨its, rv, ht0, hz⟩ := I.list hq
  cases rv with
  | @cons _ u1 _ us r1 rr =>
  have hus : us.length ≤ 10000 := by rw [← rr.length]; exact hl
  have sz : sizeLine = 16777216 := sizeLine_eq
  have ht : s.heap.IsList a (u1 :: us).toArray := ht0.isList
  have ha : a < s.heap.objs.size := by obtain ⟨o, ho, _⟩ := ht; exact Heap.lt_size ho
  rw [assign_Tuple]
  refine wpAny_bind (wpAny_standAt ?_)
  unfold unpack
  rw [hne]
  refine wpAny_bind (wpAny_holding ?_)
  show wpAny _ _ (unpackItems (.ref a) 2 (some 1)) _ _ _
  unfold unpackItems
  refine wpAny_bind ?_
  unfold notIterableAtAll
  refine wpAny_bind (wpAny_specialOf ht.typeIs slot_list_iter.lookup (wpAny_pure ?_))
  rw [if_neg (by decide)]
  refine wpAny_bind (wpAny_holding (wpAny_pyIter_list ht ?_))
  have ht1 : (s.heap.push { cls := .type "list_iterator", data := .fields #[.ref a, .int 0 0] }).IsList a (u1 :: us).toArray := ht.push _
  refine wpAny_bind (wpAny_holding (PySem.W.kun_draw (Nat.ne_of_lt ha) 1 0 _ _ ⟨_, Heap.get?_push_size _ rfl, rfl, rfl⟩ ht1 (by simp) fun h1' hit hs1 => ?_))
  have ht2 := ht1.extBut hs1.extBut (Nat.ne_of_lt ha)
  rw [Nat.zero_add] at hit
  obtain ⟨oi, hoi, _⟩ := id hit
  obtain ⟨ot, hot, _⟩ := id ht2
  show wpAny _ _ (if ((u1 :: us).drop 0 |>.take 1).length < 1 then _ else _) _ _ _
  rw [if_neg (by simp)]
  refine wpAny_bind (wpAny_holding (PySem.W.kun_collect (s := { s with heap := h1' }) (T := "list_iterator") (.inr (.inr (.inl rfl))) (Walks.list (A := X.A.in1) (I.ok.hd hc) s.heap.objs.size a (Nat.ne_of_lt ha) (u1 :: us).toArray) (fun j u st => st.1.typeIs) (k := 1) (by simp) ⟨hit, ht2⟩ (Heap.lt_size hoi) (Heap.lt_size hot) (fun h2' tk hk => ?_) (by simp; omega)))
  show wpAny _ _ (if us.length < 0 then _ else _) _ _ _
  rw [if_neg (by omega)]
  refine wpAny_bind (wpAny_newList ?_ (by show (us.take (us.length - 0)).length ≤ sizeLine; rw [List.length_take]; omega))
  have keep : ∀ b o, s.heap.get? b = some o → h2'.get? b = some o := fun b o eb => hk b o (Nat.ne_of_lt (Heap.lt_size eb)) (hs1.extBut b o (Nat.ne_of_lt (Heap.lt_size eb)) (Heap.get?_push_of_some _ eb))
  have I2 : Inv X pins σ H { s with heap := h2', toks := tk } := I.kept keep
  have I3 : Inv X pins σ (upd H h2'.objs.size (.lst xs)) { s with heap := h2'.push { cls := .type "list", data := .seq us.toArray }, toks := tk } :=
    I2.laid (t' := tk) (o := .lst xs) (fun b ob q => Heap.get?_push_of_some _ q) (Nat.le_refl _) ⟨by omega, us, 0, rr, Heap.get?_push_size _ rfl⟩
  have e1 : (us.take (us.length - 0)) = us := by rw [Nat.sub_zero, List.take_length]
  have e2 : us.drop (us.length - 0) = [] := by rw [Nat.sub_zero, List.drop_length]
  show wpAny _ _ (pure (((u1 :: us).drop 0 |>.take 1) ++ [Value.ref h2'.objs.size] ++ us.drop (us.length - 0))) _ _ { s with heap := h2'.push { cls := .type "list", data := .seq (us.take (us.length - 0)).toArray }, toks := tk }
  rw [e1, e2]
  refine wpAny_pure ?_
  refine assignInOrder_cons (thn (h1.run pins _ σ _ x u1 _ I3 r1 (hw _ (I2.hok.fresh (Nat.le_refl _)))) fun _ s4 ⟨σ1, H1, I4, q4⟩ => ?_)
  refine assignInOrder_cons (thn (h2.run pins s4 σ1 H1 (.ref h2'.objs.size) _ _ I4 rfl q4) fun _ s5 q5 => ?_)
  exact assignInOrder_nil q5
end
end SWL
set_option Elab.async false
set_option linter.all false
set_option maxRecDepth 100000
set_option maxHeartbeats 4000000
namespace SWL
open PySem PySem.Spec PyProof.Rows L2 LamX NdefX
/-! defs that get functions which another frame made: what those captured is told of the very heap -/
theorem CellsAt.on {X : Cx} {pins : List (Addr × Obj)} {σ : L2.St} {H : Hp} {s : Shared} {cl : List (Str × Addr)} {fr : List Str} {ws : List (Option V)} (C : CellsAt cl fr ws X.s_0.heap X.H_0) (hx : X.ex = []) (I : Inv X pins σ H s) : CellsAt cl fr ws s.heap H := by
  have nx : ∀ c, c ∉ X.ex := fun c h => by rw [hx] at h; cases h
  have kp : ∀ y c, cl.lookup y = some c → ∀ v, X.s_0.heap.IsCell c v → s.heap.IsCell c v := fun y c e v ⟨o, ho, hd⟩ => by
    obtain ⟨sl, q⟩ := I.base.any ho (C.all y c e).1 (nx c)
    exact ⟨_, q, hd⟩
  refine ⟨C.len, fun y c e => ?_, C.inj, fun i y e => ?_⟩
  · obtain ⟨n, v, z⟩ := C.all y c e
    refine ⟨?_, v, kp y c e v z⟩
    obtain ⟨o, ho, _⟩ := z
    exact I.base.free c o ho n (nx c)
  · obtain ⟨c, hc, hv⟩ := C.has i y e
    refine ⟨c, hc, fun v ev => ?_⟩
    obtain ⟨u, r, z⟩ := hv v ev
    exact ⟨u, r, kp y c hc _ z⟩
abbrev SpH := List V → Heap → Hp → VK → XK → Prop
structure FnH (P : Program) (w : World) (K : PySem.W.Frag) (mg : Str → Option Value) (base : Heap) (k : Nat) (f : Addr) (fd : FuncData) (ps : List Str) (sp : SpH) : Prop where
  len : ∀ vs h H Q E, sp vs h H Q E → vs.length = ps.length
  run : ∀ (A : Around) (outer : List Env) (s : Shared) (H : Hp) (args : Args) (us : List Value) (vs : List V) (Q : VK) (E : XK), Room k A → Env0 P w K mg base A outer s H → BindsTo s fd args (ps.zip us) → Vals vs us → sp vs s.heap H Q E →
    codeAny (model P w) A (.call (.ref f) args) (CR CX0 outer P w H s Q E) s
theorem FnH.mono {P : Program} {w : World} {K : PySem.W.Frag} {mg : Str → Option Value} {base : Heap} {j k : Nat} {f : Addr} {fd : FuncData} {ps : List Str} {sp : SpH} (F : FnH P w K mg base j f fd ps sp) (h : j ≤ k) : FnH P w K mg base k f fd ps sp :=
  ⟨F.len, fun A outer s H args us vs Q E hr => F.run A outer s H args us vs Q E (hr.mono h)⟩
section
variable {P : Program} {w : World} {K : PySem.W.Frag} {mg : Str → Option Value} {base : Heap}
theorem fnh_ok {x qual : Str} {params : Arguments} {body : List Stmt} {scope : Scope} {dV kV doc pm cdv ct oc : Value} {an od : Option Addr} {osl : Array (Option Value)} {f : Addr} {N ps : List Str} {k : Nat} {sp : SpH}
    (lk : K.lookup f = some ⟨oc, od, .func (PySem.W.fnOf x qual params body scope dV kV doc pm an cdv ct), osl⟩) (hcd : PySem.W.codeIn K cdv qual = true) (S : FnScope N ps scope) (len : ∀ vs h H Q E, sp vs h H Q E → vs.length = ps.length)
    (hbody : ∀ (A : Around) (outer : List Env) (s : Shared) (H : Hp) (vs : List V) (Q : VK) (E : XK), Room k (A.deeper (envOfC qual scope s.heap.objs.size f cdv)) → sp vs s.heap H Q E →
      ∃ t, PSs (cxOf CX0 P w K mg base N qual scope f cdv A outer s H E).nox body t ∧ t { nx := fun _ H' => Q .non H', rt := Q } (L2.start N vs) H) :
    FnH P w K mg base (k + 1) f (PySem.W.fnOf x qual params body scope dV kV doc pm an cdv ct) ps sp := by
  refine ⟨len, fun A outer s H args us vs Q E hr e0 hb r hsp => ?_⟩
  refine run_ofS lk hcd S hr e0 hb r (len _ _ _ _ _ hsp) fun hr2 => ?_
  obtain ⟨t, h, q⟩ := hbody A outer s H vs Q E hr2 hsp
  exact ⟨t, h.nox, q⟩
end
/-- a call of such a def: what it asks of the heap is shown by what holds of the running frame -/
def tCallH (sp : L2.St → Sp) (dvs : List V) (t : TA) : TE := fun σ H Q => t σ H fun vs H1 => sp σ (vs ++ dvs) H1 Q E0
section
variable {X : Cx} {k : Nat} {f : Addr} {fd : FuncData} {ps : List Str} {spH : SpH} {sp : L2.St → Sp} {dvs : List V} {ds : List Value} {x : Str} {p pos : Pos} {e : Expr} {es : List Expr} {t : TA}
theorem pe_callH (F : FnH X.prog X.w X.K X.mg X.base k f fd ps spH) (hr : Room k X.A) (hg : Gl X x) (hm : X.mg x = some (.ref f)) (hk : PySem.W.keepIn X.K (.ref f) = true) (hb : Binds X.K fd ps ds) (hd : Vals dvs ds)
    (hs : ∀ pins σ H s vs Q, Inv X pins σ H s → sp σ vs H Q E0 → spH vs s.heap H Q E0) (ha : PA X (e :: es) t)
    (hdb : (x == ("__debug__" : Str)) = false := by decide) (he : starEach (e :: es) X.env = (false, eval e X.env) :: starEach es X.env := by rfl) (hpl : (backTo pos (starEach es X.env)).any (·.1) = false := by rfl) :
    PE X (.Call (.Name x p) (e :: es) [] pos) (tCallH sp dvs t) := by
  constructor
  intro pins s σ H Q I h
  refine wpAny_Call_Name_kw (ld_glob I hg hm (PySem.W.callWith_K (h₀ := X.base) I.ok.mod.kin hk (thn (ha.run pos pins s σ H _ I h) fun us s1 ⟨vs, H1, I1, r, q⟩ => ⟨I1.kIn, ?_⟩) he hpl) hdb)
  have q2 := hs pins σ H1 s1 (vs ++ dvs) Q I1 q
  have r2 : Vals (vs ++ dvs) (us ++ ds) := r.append hd
  have hl : (us ++ ds).length = ps.length := r2.length.symm.trans (F.len _ _ _ _ _ q2)
  have hb1 := hb s1 us I1.kIn hl
  refine wpAny_call (codeAny_mono (F.run X.A X.stack s1 H1 ⟨us, []⟩ (us ++ ds) (vs ++ dvs) Q E0 hr I1.env0 hb1 r2 q2) fun r s' hq => ?_)
  match r, hq with
  | .error _, z => exact False.elim z
  | .ok (.ret u), z => exact I1.after z
  | .ok .next, z => exact False.elim z
  | .ok .brk, z => exact False.elim z
  | .ok .cont, z => exact False.elim z
/-- f(..), f a name that holds a function which another frame made -/
def tCallC (i : Nat) (f : Addr) (F : NF) (sp : Sp) (t : TA) : TE := fun σ H Q => σ[i]? = some (some (.ref f)) ∧ H f = some (FnO f F) ∧ t σ H fun vs H1 => H1 f = some (FnO f F) ∧ H1 F.c = some (CodeO F.c F.qual) ∧ sp vs H1 Q E0
theorem pe_callC {F : NF} {fr : List Str} {ws : List (Option V)} {spN : List (Option V) → Sp} {i : Nat} (Fn : NOk X.prog X.w X.K X.mg X.base CX0 k f F ps fr spN) (C : CellsAt F.cl fr ws X.s_0.heap X.H_0) (hx : X.ex = []) (hr : Room k X.A) (hN : X.N[i]? = some x) (hv : Vis X.env.scope x) (ha : PA X (e :: es) t)
    (hd : (x == ("__debug__" : Str)) = false := by decide) (hcd : (x == ("__classdict__" : Str)) = false := by decide)
    (he : starEach (e :: es) X.env = (false, eval e X.env) :: starEach es X.env := by rfl) (hpl : (backTo pos (starEach es X.env)).any (·.1) = false := by rfl) :
    PE X (.Call (.Name x p) (e :: es) [] pos) (tCallC i f F (spN ws) t) := by
  refine ⟨fun pins s σ H Q I h => ?_⟩
  obtain ⟨hs, hf, ht⟩ := h
  refine wpAny_Call_Name_kw (thn ((pe_var (pos := p) hN hv hd hcd).run pins s σ H (fun v H1 => v = .ref f ∧ H1 = H) I ⟨.ref f, hs, rfl, rfl⟩) fun u s1 ⟨v, H1, I1, r1, q1⟩ => ?_)
  obtain ⟨ev, eH⟩ := q1
  subst ev
  rw [eH] at I1
  obtain rfl : u = Value.ref f := r1
  refine PySem.W.callWith_F (first := []) (fnAt_of I1 hf) (thn (ha.run pos pins s1 σ H _ I1 ht) fun us s2 ⟨vs, H2, I2, r, h1, h2, q⟩ => ⟨fnAt_of I2 h1, ?_⟩) he hpl
  show wpAny _ _ (call (.ref f) us) _ _ _
  refine wpAny_call (codeAny_mono (Fn.run X.A X.stack s2 H2 us vs ws Q E0 hr I2.env0 h1 h2 (CellsAt.on C hx I2) r q) fun r s' hq => ?_)
  match r, hq with
  | .error _, z => exact False.elim z
  | .ok (.ret u), z => exact I2.after z
  | .ok .next, z => exact False.elim z
  | .ok .brk, z => exact False.elim z
  | .ok .cont, z => exact False.elim z
end
end SWL
set_option Elab.async false
set_option linter.all false
set_option maxRecDepth 100000
set_option maxHeartbeats 4000000
namespace SWL
open PySem PySem.Spec PyProof.Rows L2
/-! zip of a text and a tuple -/
def PairsST (K : PySem.W.Frag) (x : Str) (b : Addr) : It :=
  ⟨fun i H => ∃ (ys : List V) (y : V) (c : Nat), SqT K H b ys ∧ x.cps[i]? = some c ∧ ys[i]? = some y,
    fun i H v H' => ∃ (T : Addr) (c : Nat) (y : V), v = .ref T ∧ H T = none ∧ H' = upd H T (.tup [.str ⟨#[c]⟩, y]) ∧ x.cps[i]? = some c ∧ ∀ ys, SqT K H b ys → ys[i]? = some y,
    fun i H => ∃ ys : List V, SqT K H b ys ∧ i = min x.cps.size ys.length⟩
theorem turnZipST {P : Program} {w : World} {K : PySem.W.Frag} {elts : List Expr} {kk : Nat} {tp : Pos} {N b : Addr} (x : Str) (t : Tok) (hb : b < N) :
    Turn P w K (.Tuple elts kk tp) (PairsST K x b) [N + 4, N + 2, N + 3, N, N + 1] (N + 4)
      (fun i h => IsZip h (N + 4) (N + 2) (N + 3) .none ∧ IsTupOf2 h (N + 2) (.ref N) (.ref (N + 1)) ∧ (∃ a c, IsTupOf2 h (N + 3) a c) ∧ h.IsStrIter N (strIterType x) x t i ∧ h.IsTupleIter (N + 1) b i) where
  mem := by simp
  obj := fun i h st c hc => by
    obtain ⟨z1, z2, ⟨_, _, z3⟩, ⟨o4, z4, _, d4⟩, ⟨o5, z5, _, d5⟩⟩ := st
    rcases (by simpa using hc : c = N + 4 ∨ c = N + 2 ∨ c = N + 3 ∨ c = N ∨ c = N + 1) with e | e | e | e | e
    · exact ⟨_, by rw [e]; exact z1, fun v q => by cases q⟩
    · exact ⟨_, by rw [e]; exact z2, fun v q => by cases q⟩
    · exact ⟨_, by rw [e]; exact z3, fun v q => by cases q⟩
    · exact ⟨o4, by rw [e]; exact z4, fun v q => by rw [d4] at q; cases q⟩
    · exact ⟨o5, by rw [e]; exact z5, fun v q => by rw [d5] at q; cases q⟩
  keep := fun i h h' st hk => by
    obtain ⟨z1, z2, ⟨a, c, z3⟩, z4, z5⟩ := st
    exact ⟨hk _ (by simp) _ z1, hk _ (by simp) _ z2, ⟨a, c, hk _ (by simp) _ z3⟩, let ⟨o, e, r⟩ := z4; ⟨o, hk _ (by simp) o e, r⟩, z5.at fun o q => hk (N + 1) (by simp) o q⟩
  item := by
    intro X hP hw hK hc i pins s σ H E I hf st hg
    subst hP hw hK
    have hh : X.A.handled = none := I.ok.hd hc
    obtain ⟨ys, y, c, hq, hx, hy⟩ := hg
    obtain ⟨its, rv, p, _⟩ := I.tuple hq
    have hne : b ≠ N + 1 := Nat.ne_of_lt (Nat.lt_succ_of_lt hb)
    have D1 := Draws.text (prog := X.prog) (w := X.w) (A := X.A.in1) hh N x t
    have D2 := Draws.tuple (prog := X.prog) (w := X.w) (A := X.A.in1) hh (N + 1) b hne its.toArray
    have S : ZipSep2 (N + 4) (N + 2) (N + 3) N (N + 1) [N] [N + 1, b] := zip_sep2 (fp1 := []) (fp2 := [b]) (fun _ h => nomatch h) (fun c h => by rw [List.mem_singleton.mp h]; exact hb)
    have G := GoesN.zip2 (elts := elts) (x1 := kk) (pos := tp) S D1 D2
    have hl := rv.length
    have hi : i < min x.cps.size its.toArray.size := by
      have h1 := (Array.getElem?_eq_some_iff.mp hx).1
      have h2 := (List.getElem?_eq_some_iff.mp hy).1
      simp only [List.size_toArray]
      omega
    obtain ⟨z1, z2, z3, z4, z5⟩ := id st
    refine G.goes i s _ E hi ⟨z1, z2, z3, z4, z5, p⟩ fun v h' tk hY st' hk _ => ?_
    obtain ⟨T, a, d, rfl, hT, ⟨c', t1, hc1, rfl⟩, hd1, hTup⟩ := hY
    obtain ⟨y1, y2, y3, y4, y5, _⟩ := st'
    have fr : H T = none := I.hok.fresh hT
    obtain ⟨u2, hu2, ru2⟩ := rv.get hy
    have ed : d = u2 := by
      have hd2 : its[i]? = some d := by simpa using hd1
      rw [hu2] at hd2
      exact (Option.some.inj hd2).symm
    rw [ed] at hTup
    refine ⟨.ref T, upd H T (.tup [.str ⟨#[c']⟩, y]), I.turnedNew (t' := tk) (ch := [N + 4, N + 3, N, N + 1]) hk (fun e he => hf e ?_) hT ?_, rfl, ⟨T, c', y, rfl, fr, rfl, hc1, fun l hl2 => by rw [I.tuple_inj hl2 hq]; exact hy⟩, ⟨y1, y2, y3, y4, y5⟩, fun e he => ?_⟩
    · rcases (by simpa using he : e = N + 4 ∨ e = N + 3 ∨ e = N ∨ e = N + 1) with q | q | q | q <;> simp [q]
    · exact ⟨by show 2 ≤ sizeLine; decide, _, .cons ⟨_, rfl⟩ (.cons ru2 .nil), hTup⟩
    · have hlt : e < s.heap.objs.size := by
        obtain ⟨z1, z2, ⟨_, _, z3⟩, ⟨o4, z4, _⟩, ⟨o5, z5, _⟩⟩ := st
        rcases (by simpa using he : e = N + 4 ∨ e = N + 2 ∨ e = N + 3 ∨ e = N ∨ e = N + 1) with q | q | q | q | q
        · rw [q]; exact Heap.lt_size z1
        · rw [q]; exact Heap.lt_size z2
        · rw [q]; exact Heap.lt_size z3
        · rw [q]; exact Heap.lt_size z4
        · rw [q]; exact Heap.lt_size z5
      rw [upd_ne (Nat.ne_of_lt (Nat.lt_of_lt_of_le hlt hT))]
      exact (hf e he).1
  done := by
    intro X hP hw hK hc i pins s σ H E I hf st hg
    subst hP hw hK
    have hh : X.A.handled = none := I.ok.hd hc
    obtain ⟨ys, hq, hi⟩ := hg
    obtain ⟨its, rv, p, _⟩ := I.tuple hq
    have hne : b ≠ N + 1 := Nat.ne_of_lt (Nat.lt_succ_of_lt hb)
    have D1 := Draws.text (prog := X.prog) (w := X.w) (A := X.A.in1) hh N x t
    have D2 := Draws.tuple (prog := X.prog) (w := X.w) (A := X.A.in1) hh (N + 1) b hne its.toArray
    have S : ZipSep2 (N + 4) (N + 2) (N + 3) N (N + 1) [N] [N + 1, b] := zip_sep2 (fp1 := []) (fp2 := [b]) (fun _ h => nomatch h) (fun c h => by rw [List.mem_singleton.mp h]; exact hb)
    have G := GoesN.zip2 (elts := elts) (x1 := kk) (pos := tp) S D1 D2
    have hl := rv.length
    have hi : i = min x.cps.size its.toArray.size := by
      have e : its.toArray.size = its.length := List.size_toArray
      omega
    rw [hi] at st
    obtain ⟨z1, z2, z3, z4, z5⟩ := st
    refine G.stops s _ E ⟨z1, z2, z3, z4, z5, p⟩ fun h' tk hk _ => ?_
    refine I.turnedL (t' := tk) (ch := [N + 4, N + 3, N, N + 1]) hk fun e he => hf e ?_
    rcases (by simpa using he : e = N + 4 ∨ e = N + 3 ∨ e = N ∨ e = N + 1) with q | q | q | q <;> simp [q]
  self := fun A i s Q E st h => wpAny_pyIter_zip st.1 h
def iZipST (K : PySem.W.Frag) (ta : TA) : TI := fun σ H R => ta σ H fun vs H1 => ∃ x b ys, vs = [.str x, .ref b] ∧ SqT K H1 b ys ∧ R (PairsST K x b) H1
theorem pi_zipST {X : Cx} {e e2 : Expr} {ta : TA} {p pos tpos : Pos} {elts : List Expr} {kk : Nat} (hg : Gl X "zip") (hm : X.mg "zip" = none) (ha : PA X [e, e2] ta)
    (hs : starEach [e, e2] X.env = (false, eval e X.env) :: starEach [e2] X.env := by rfl) (hpl : (backTo pos (starEach [e2] X.env)).any (·.1) = false := by rfl) :
    PI X (.Tuple elts kk tpos) (.Call (.Name "zip" p) [e, e2] [] pos) (iZipST X.K ta) := by
  refine ⟨fun pins s σ H R I h => Call_ (ld_blt I hg hm boot_zip (callWith_type1 (thn (ha.run pos pins s σ H _ I h) fun us s1 q => ?_) hs hpl))⟩
  obtain ⟨vs, H1, I1, rel, x, b, ys, rfl, hq, q⟩ := q
  obtain ⟨u1, u2, rfl, ⟨t1, rfl⟩, r2⟩ := vals2 rel
  obtain rfl : u2 = Value.ref b := r2
  obtain ⟨its, rv, p, _⟩ := I1.tuple hq
  have hb : b < s1.heap.objs.size := by
    obtain ⟨o, ho, _⟩ := id p
    exact Heap.lt_size ho
  refine zip_begins2 (begins_text x t1) (begins_tuple b its.toArray) trivial p fun h' z1 z2 z3 z4 z5 hsz hk => wpAny_pyIter_zip z1 ?_
  refine ⟨_, _, _, _, H1, rfl, I1.kept (t' := s1.toks) hk, turnZipST (N := s1.heap.objs.size) x t1 hb, ⟨z1, z2, ⟨_, _, z3⟩, ⟨_, z4, rfl, rfl⟩, ⟨_, z5, rfl, rfl⟩⟩, fun c hc => ?_, q⟩
  have hle : s1.heap.objs.size ≤ c := by
    rcases (by simpa using hc : c = s1.heap.objs.size + 4 ∨ c = s1.heap.objs.size + 2 ∨ c = s1.heap.objs.size + 3 ∨ c = s1.heap.objs.size ∨ c = s1.heap.objs.size + 1) with e | e | e | e | e <;> rw [e] <;> first | exact Nat.le_add_right _ _ | exact Nat.le_refl _
  exact I1.fpOk hle (I1.hok.fresh hle)
/-- the walk -/
theorem walk_zipST {K : PySem.W.Frag} {x : Str} {b : Addr} {ys : List V} (hl : ys.length = x.cps.size) : Walk (PairsST K x b) x.cps.size (fun H => SqT K H b ys) (fun i H v H' => ∃ (T : Addr) (c : Nat) (y : V), v = .ref T ∧ H T = none ∧ H' = upd H T (.tup [.str ⟨#[c]⟩, y]) ∧ x.cps[i]? = some c ∧ ys[i]? = some y) :=
  ⟨fun i H hi h => ⟨ys, ys[i]'(by omega), x.cps[i], h, Array.getElem?_eq_getElem hi, List.getElem?_eq_getElem (by omega)⟩, fun H h => ⟨ys, h, by omega⟩,
    fun i H v H' hi h ⟨T, c, y, h1, h2, h3, h4, h5⟩ => ⟨T, c, y, h1, h2, h3, h4, h5 ys h⟩⟩
end SWL
set_option Elab.async false
set_option linter.all false
set_option maxRecDepth 100000
set_option maxHeartbeats 4000000
namespace SWL
open PySem PySem.Spec PyProof.Rows L2
/-! any walk: what a turn does with the next wish is all that is asked (comprehensions with two for) -/
theorem walk_it {J : It} {n : Nat} {G : Hp → Prop} {Y : Nat → Hp → V → Hp → Prop} (w : Walk J n G Y) {Step : V → Hp → (Hp → Prop) → Prop} {H1 : Hp} {Qd : Hp → Prop} (Pv : Nat → Hp → Prop) (h0 : Pv 0 H1) (hG : ∀ i H, i ≤ n → Pv i H → G H)
    (hs : ∀ i x H H', i < n → Pv i H → Y i H x H' → Step x H' (Pv (i + 1))) (hd : ∀ H, Pv n H → Qd H) :
    ∃ W : Nat → Nat → Hp → Prop, (∃ m, W 0 m H1) ∧ ∀ i m H, W i m H →
      (J.stop i H ∧ Qd H) ∨ (J.go i H ∧ ∃ Nx : Hp → Prop, (∀ H', Nx H' → ∃ m', m' < m ∧ W (i + 1) m' H') ∧ ∀ x H', J.yld i H x H' → Step x H' Nx) := by
  refine ⟨fun i m H => m = n - i ∧ i ≤ n ∧ Pv i H, ⟨n, by simp, Nat.zero_le _, h0⟩, ?_⟩
  rintro i m H ⟨rfl, hi, p⟩
  have q := hG i H hi p
  by_cases hlt : i < n
  · exact .inr ⟨w.goes i H hlt q, Pv (i + 1), fun H' p' => ⟨n - (i + 1), by omega, rfl, hlt, p'⟩, fun x H' y => hs i x H H' hlt p (w.yields i H x H' hlt q y)⟩
  · have e : i = n := by omega
    subst e
    exact .inl ⟨w.stops H q, hd H p⟩
end SWL
set_option Elab.async false
set_option linter.all false
set_option maxRecDepth 100000
set_option maxHeartbeats 4000000
namespace SWL
open PySem PySem.Spec PyProof.Rows L2
/-! {(a, b): v}: a display of one pair, the key a tuple of ints and texts -/
def tDispT1 (tk tv : TE) : TE := fun σ H Q => ∀ p, H p = none → tk σ (upd H p (.dT [])) fun x H1 => tv σ H1 fun y H2 => H2 p = some (.dT []) ∧ ∃ b ks, x = .ref b ∧ H2 b = some (.tup (ks.map kV)) ∧ Q (.ref p) (upd H2 p (.dT [(ks, y)]))
theorem pe_dispT1 {X : Cx} {pos : Pos} {k v : Expr} {tk tv : TE} (hu : X.A.units + 16 < cLine) (hk : PE X k tk) (hv : PE X v tv) : PE X (.Dict [some k] [v] pos) (tDispT1 tk tv) := by
  refine ⟨fun pins s σ H Q I q => ?_⟩
  have hn := I.hok.fresh (Nat.le_refl s.heap.objs.size)
  have I1 := I.laid (a := s.heap.objs.size) (o := .dT []) (h' := s.heap.push { cls := .type "dict", data := .dict #[] }) (t' := s.toks) (fun _ _ q => Heap.get?_push_of_some _ q) (Nat.le_refl _) (dt_empty s.heap I.big)
  have hpl : (pairTrees [some k] [v] X.env pos).length = 1 := pairTrees_length [some k] [v] X.env pos rfl rfl
  rw [arm_eval_Dict, zip_pairTrees [some k] [v] X.env pos rfl rfl, dictDisplay_pairs _ (fun e => by rw [e] at hpl; cases hpl) (by omega)]
  refine wpAny_bind (wpAny_standAt (wpAny_bind (wpAny_subDictH (knd := tupleKind (mixKind X.prog X.w)) (Q := fun d s' => wpAny (model X.prog X.w) X.A (pure (Value.ref d)) _ _ s') (show X.A.units < cLine by omega) (by omega) ?_)))
  have hq := q _ hn
  refine pairTrees_cons_walk (thn (hk.run pins _ σ _ _ I1 hq) fun u s1 ⟨x, H1, J1, rx, q1⟩ => thn (hv.run pins s1 σ H1 _ J1 q1) fun w2 s2 ⟨y, H2, I2, ry, e, b, ks, ex, eb, q2⟩ => pairTrees_nil_walk ?_)
  subst ex
  cases (show u = Value.ref b from rx)
  obtain ⟨z, hd, xs, rel, dd⟩ := dt_of I2.hok e
  cases rel
  refine ⟨[(ks, b, w2)], ⟨rfl, rfl, key_of I2.hok eb, trivial⟩, dd, fun h' tk dd' hs => wpAny_pure ⟨.ref s.heap.objs.size, _, ?_, rfl, q2⟩⟩
  obtain ⟨q0, es, ep, hq0, h2, h3, h4, _, h5⟩ := dd'
  refine d_write I2 (by rw [e]; exact True.intro) hs ⟨q0, hq0⟩ ⟨by show 1 ≤ sizeLine; decide, hd, [(ks, b, w2)], .cons ⟨rfl, ?_, ry⟩ .nil, q0, es, ep, hq0, h2, h3, h4, h5⟩
  rw [upd_ne (ne_of eb e (fun z => nomatch z))]
  exact eb
end SWL
set_option Elab.async false
set_option linter.all false
set_option maxRecDepth 100000
set_option maxHeartbeats 8000000
namespace SWL
open PySem PySem.Spec PyProof.Rows L2
/-! zip of a text and two tuples -/
def PairsSTT (K : PySem.W.Frag) (x : Str) (b e : Addr) : It :=
  ⟨fun i H => ∃ (ys zs : List V) (y z : V) (c : Nat), SqT K H b ys ∧ SqT K H e zs ∧ x.cps[i]? = some c ∧ ys[i]? = some y ∧ zs[i]? = some z,
    fun i H v H' => ∃ (T : Addr) (c : Nat) (y z : V), v = .ref T ∧ H T = none ∧ H' = upd H T (.tup [.str ⟨#[c]⟩, y, z]) ∧ x.cps[i]? = some c ∧ (∀ ys, SqT K H b ys → ys[i]? = some y) ∧ ∀ zs, SqT K H e zs → zs[i]? = some z,
    fun i H => ∃ ys zs : List V, SqT K H b ys ∧ SqT K H e zs ∧ i = min (min x.cps.size ys.length) zs.length⟩
theorem turnZipSTT {P : Program} {w : World} {K : PySem.W.Frag} {elts : List Expr} {kk : Nat} {tp : Pos} {N b e : Addr} (x : Str) (t : Tok) (hb : b < N) (he : e < N) :
    Turn P w K (.Tuple elts kk tp) (PairsSTT K x b e) [N + 5, N + 3, N + 4, N, N + 1, N + 2] (N + 5)
      (fun i h => IsZip h (N + 5) (N + 3) (N + 4) .none ∧ IsTupOf3 h (N + 3) (.ref N) (.ref (N + 1)) (.ref (N + 2)) ∧ (∃ a c d, IsTupOf3 h (N + 4) a c d) ∧ h.IsStrIter N (strIterType x) x t i ∧ h.IsTupleIter (N + 1) b i ∧ h.IsTupleIter (N + 2) e i) where
  mem := by simp
  obj := fun i h st c hc => by
    obtain ⟨z1, z2, ⟨_, _, _, z3⟩, ⟨o4, z4, _, d4⟩, ⟨o5, z5, _, d5⟩, ⟨o6, z6, _, d6⟩⟩ := st
    rcases (by simpa using hc : c = N + 5 ∨ c = N + 3 ∨ c = N + 4 ∨ c = N ∨ c = N + 1 ∨ c = N + 2) with e | e | e | e | e | e
    · exact ⟨_, by rw [e]; exact z1, fun v q => by cases q⟩
    · exact ⟨_, by rw [e]; exact z2, fun v q => by cases q⟩
    · exact ⟨_, by rw [e]; exact z3, fun v q => by cases q⟩
    · exact ⟨o4, by rw [e]; exact z4, fun v q => by rw [d4] at q; cases q⟩
    · exact ⟨o5, by rw [e]; exact z5, fun v q => by rw [d5] at q; cases q⟩
    · exact ⟨o6, by rw [e]; exact z6, fun v q => by rw [d6] at q; cases q⟩
  keep := fun i h h' st hk => by
    obtain ⟨z1, z2, ⟨a, c, d, z3⟩, z4, z5, z6⟩ := st
    exact ⟨hk _ (by simp) _ z1, hk _ (by simp) _ z2, ⟨a, c, d, hk _ (by simp) _ z3⟩, let ⟨o, e, r⟩ := z4; ⟨o, hk _ (by simp) o e, r⟩, z5.at fun o q => hk (N + 1) (by simp) o q, z6.at fun o q => hk (N + 2) (by simp) o q⟩
  item := by
    intro X hP hw hK hc i pins s σ H E I hf st hg
    subst hP hw hK
    have hh : X.A.handled = none := I.ok.hd hc
    obtain ⟨ys, zs, y, z, c, hq, hq2, hx, hy, hz⟩ := hg
    obtain ⟨its, rv, p, _⟩ := I.tuple hq
    obtain ⟨its2, rv2, p2, _⟩ := I.tuple hq2
    have hne : b ≠ N + 1 := Nat.ne_of_lt (Nat.lt_succ_of_lt hb)
    have hne2 : e ≠ N + 2 := Nat.ne_of_lt (Nat.lt_succ_of_lt (Nat.lt_succ_of_lt he))
    have D1 := Draws.text (prog := X.prog) (w := X.w) (A := X.A.in1) hh N x t
    have D2 := Draws.tuple (prog := X.prog) (w := X.w) (A := X.A.in1) hh (N + 1) b hne its.toArray
    have D3 := Draws.tuple (prog := X.prog) (w := X.w) (A := X.A.in1) hh (N + 2) e hne2 its2.toArray
    have S : ZipSep3 (N + 5) (N + 3) (N + 4) N (N + 1) (N + 2) [N] [N + 1, b] [N + 2, e] := zip_sep3 (fp1 := []) (fp2 := [b]) (fp3 := [e]) (fun _ h => nomatch h) (fun c h => by rw [List.mem_singleton.mp h]; exact hb) (fun c h => by rw [List.mem_singleton.mp h]; exact he)
    have G := GoesN.zip3 (elts := elts) (x1 := kk) (pos := tp) S D1 D2 D3
    have hl := rv.length
    have hl2 := rv2.length
    have hi : i < min (min x.cps.size its.toArray.size) its2.toArray.size := by
      have h1 := (Array.getElem?_eq_some_iff.mp hx).1
      have h2 := (List.getElem?_eq_some_iff.mp hy).1
      have h3 := (List.getElem?_eq_some_iff.mp hz).1
      simp only [List.size_toArray]
      omega
    obtain ⟨z1, z2, z3, z4, z5, z6⟩ := id st
    refine G.goes i s _ E hi ⟨z1, z2, z3, z4, ⟨z5, p⟩, ⟨z6, p2⟩⟩ fun v h' tk hY st' hk _ => ?_
    obtain ⟨T, a, d, u, rfl, hT, ⟨c', t1, hc1, rfl⟩, hd1, hu1, hTup⟩ := hY
    obtain ⟨y1, y2, y3, y4, ⟨y5, _⟩, ⟨y6, _⟩⟩ := st'
    have fr : H T = none := I.hok.fresh hT
    obtain ⟨u2, hu2, ru2⟩ := rv.get hy
    obtain ⟨u3, hu3, ru3⟩ := rv2.get hz
    have ed : d = u2 := by
      have hd2 : its[i]? = some d := by simpa using hd1
      rw [hu2] at hd2
      exact (Option.some.inj hd2).symm
    have eu : u = u3 := by
      have hd2 : its2[i]? = some u := by simpa using hu1
      rw [hu3] at hd2
      exact (Option.some.inj hd2).symm
    rw [ed, eu] at hTup
    refine ⟨.ref T, upd H T (.tup [.str ⟨#[c']⟩, y, z]), I.turnedNew (t' := tk) (ch := [N + 5, N + 4, N, N + 1, N + 2]) hk (fun e he => hf e ?_) hT ?_, rfl, ⟨T, c', y, z, rfl, fr, rfl, hc1, fun l hl2 => by rw [I.tuple_inj hl2 hq]; exact hy, fun l hl2 => by rw [I.tuple_inj hl2 hq2]; exact hz⟩, ⟨y1, y2, y3, y4, y5, y6⟩, fun e he => ?_⟩
    · rcases (by simpa using he : e = N + 5 ∨ e = N + 4 ∨ e = N ∨ e = N + 1 ∨ e = N + 2) with q | q | q | q | q <;> simp [q]
    · exact ⟨by show 3 ≤ sizeLine; decide, _, .cons ⟨_, rfl⟩ (.cons ru2 (.cons ru3 .nil)), hTup⟩
    · have hlt : e < s.heap.objs.size := by
        obtain ⟨z1, z2, ⟨_, _, _, z3⟩, ⟨o4, z4, _⟩, ⟨o5, z5, _⟩, ⟨o6, z6, _⟩⟩ := st
        rcases (by simpa using he : e = N + 5 ∨ e = N + 3 ∨ e = N + 4 ∨ e = N ∨ e = N + 1 ∨ e = N + 2) with q | q | q | q | q | q
        · rw [q]; exact Heap.lt_size z1
        · rw [q]; exact Heap.lt_size z2
        · rw [q]; exact Heap.lt_size z3
        · rw [q]; exact Heap.lt_size z4
        · rw [q]; exact Heap.lt_size z5
        · rw [q]; exact Heap.lt_size z6
      rw [upd_ne (Nat.ne_of_lt (Nat.lt_of_lt_of_le hlt hT))]
      exact (hf e he).1
  done := by
    intro X hP hw hK hc i pins s σ H E I hf st hg
    subst hP hw hK
    have hh : X.A.handled = none := I.ok.hd hc
    obtain ⟨ys, zs, hq, hq2, hi⟩ := hg
    obtain ⟨its, rv, p, _⟩ := I.tuple hq
    obtain ⟨its2, rv2, p2, _⟩ := I.tuple hq2
    have hne : b ≠ N + 1 := Nat.ne_of_lt (Nat.lt_succ_of_lt hb)
    have hne2 : e ≠ N + 2 := Nat.ne_of_lt (Nat.lt_succ_of_lt (Nat.lt_succ_of_lt he))
    have D1 := Draws.text (prog := X.prog) (w := X.w) (A := X.A.in1) hh N x t
    have D2 := Draws.tuple (prog := X.prog) (w := X.w) (A := X.A.in1) hh (N + 1) b hne its.toArray
    have D3 := Draws.tuple (prog := X.prog) (w := X.w) (A := X.A.in1) hh (N + 2) e hne2 its2.toArray
    have S : ZipSep3 (N + 5) (N + 3) (N + 4) N (N + 1) (N + 2) [N] [N + 1, b] [N + 2, e] := zip_sep3 (fp1 := []) (fp2 := [b]) (fp3 := [e]) (fun _ h => nomatch h) (fun c h => by rw [List.mem_singleton.mp h]; exact hb) (fun c h => by rw [List.mem_singleton.mp h]; exact he)
    have G := GoesN.zip3 (elts := elts) (x1 := kk) (pos := tp) S D1 D2 D3
    have hl := rv.length
    have hl2 := rv2.length
    have hi : i = min (min x.cps.size its.toArray.size) its2.toArray.size := by
      have e1 : its.toArray.size = its.length := List.size_toArray
      have e2 : its2.toArray.size = its2.length := List.size_toArray
      omega
    rw [hi] at st
    obtain ⟨z1, z2, z3, z4, z5, z6⟩ := st
    refine G.stops s _ E ⟨z1, z2, z3, z4, ⟨z5, p⟩, ⟨z6, p2⟩⟩ fun h' tk hk _ => ?_
    refine I.turnedL (t' := tk) (ch := [N + 5, N + 4, N, N + 1, N + 2]) hk fun e he => hf e ?_
    rcases (by simpa using he : e = N + 5 ∨ e = N + 4 ∨ e = N ∨ e = N + 1 ∨ e = N + 2) with q | q | q | q | q <;> simp [q]
  self := fun A i s Q E st h => wpAny_pyIter_zip st.1 h
def iZipSTT (K : PySem.W.Frag) (ta : TA) : TI := fun σ H R => ta σ H fun vs H1 => ∃ x b e ys zs, vs = [.str x, .ref b, .ref e] ∧ SqT K H1 b ys ∧ SqT K H1 e zs ∧ R (PairsSTT K x b e) H1
theorem vals3 {a b c : V} {us : List Value} (h : Vals [a, b, c] us) : ∃ x y z, us = [x, y, z] ∧ RelV a x ∧ RelV b y ∧ RelV c z := by
  cases h with
  | cons h1 h => cases h with
    | cons h2 h => cases h with
      | cons h3 h => cases h with
        | nil => exact ⟨_, _, _, rfl, h1, h2, h3⟩
theorem pi_zipSTT {X : Cx} {e e2 e3 : Expr} {ta : TA} {p pos tpos : Pos} {elts : List Expr} {kk : Nat} (hg : Gl X "zip") (hm : X.mg "zip" = none) (ha : PA X [e, e2, e3] ta)
    (hs : starEach [e, e2, e3] X.env = (false, eval e X.env) :: starEach [e2, e3] X.env := by rfl) (hpl : (backTo pos (starEach [e2, e3] X.env)).any (·.1) = false := by rfl) :
    PI X (.Tuple elts kk tpos) (.Call (.Name "zip" p) [e, e2, e3] [] pos) (iZipSTT X.K ta) := by
  refine ⟨fun pins s σ H R I h => Call_ (ld_blt I hg hm boot_zip (callWith_type1 (thn (ha.run pos pins s σ H _ I h) fun us s1 q => ?_) hs hpl))⟩
  obtain ⟨vs, H1, I1, rel, x, b, e, ys, zs, rfl, hq, hq2, q⟩ := q
  obtain ⟨u1, u2, u3, rfl, ⟨t1, rfl⟩, r2, r3⟩ := vals3 rel
  obtain rfl : u2 = Value.ref b := r2
  obtain rfl : u3 = Value.ref e := r3
  obtain ⟨its, rv, p, _⟩ := I1.tuple hq
  obtain ⟨its2, rv2, p2, _⟩ := I1.tuple hq2
  have hb : b < s1.heap.objs.size := by
    obtain ⟨o, ho, _⟩ := id p
    exact Heap.lt_size ho
  have he : e < s1.heap.objs.size := by
    obtain ⟨o, ho, _⟩ := id p2
    exact Heap.lt_size ho
  refine zip_begins3 (begins_text x t1) (begins_tuple b its.toArray) (begins_tuple e its2.toArray) trivial p p2 fun h' z1 z2 z3 z4 z5 z6 hsz hk => wpAny_pyIter_zip z1 ?_
  refine ⟨_, _, _, _, H1, rfl, I1.kept (t' := s1.toks) hk, turnZipSTT (N := s1.heap.objs.size) x t1 hb he, ⟨z1, z2, ⟨_, _, _, z3⟩, ⟨_, z4, rfl, rfl⟩, ⟨_, z5, rfl, rfl⟩, ⟨_, z6, rfl, rfl⟩⟩, fun c hc => ?_, q⟩
  have hle : s1.heap.objs.size ≤ c := by
    rcases (by simpa using hc : c = s1.heap.objs.size + 5 ∨ c = s1.heap.objs.size + 3 ∨ c = s1.heap.objs.size + 4 ∨ c = s1.heap.objs.size ∨ c = s1.heap.objs.size + 1 ∨ c = s1.heap.objs.size + 2) with e | e | e | e | e | e <;> rw [e] <;> first | exact Nat.le_add_right _ _ | exact Nat.le_refl _
  exact I1.fpOk hle (I1.hok.fresh hle)
/-- the walk -/
theorem walk_zipSTT {K : PySem.W.Frag} {x : Str} {b e : Addr} {ys zs : List V} (hl : ys.length = x.cps.size) (hl2 : zs.length = x.cps.size) : Walk (PairsSTT K x b e) x.cps.size (fun H => SqT K H b ys ∧ SqT K H e zs) (fun i H v H' => ∃ (T : Addr) (c : Nat) (y z : V), v = .ref T ∧ H T = none ∧ H' = upd H T (.tup [.str ⟨#[c]⟩, y, z]) ∧ x.cps[i]? = some c ∧ ys[i]? = some y ∧ zs[i]? = some z) :=
  ⟨fun i H hi h => ⟨ys, zs, ys[i]'(by omega), zs[i]'(by omega), x.cps[i], h.1, h.2, Array.getElem?_eq_getElem hi, List.getElem?_eq_getElem (by omega), List.getElem?_eq_getElem (by omega)⟩, fun H h => ⟨ys, zs, h.1, h.2, by omega⟩,
    fun i H v H' hi h ⟨T, c, y, z, h1, h2, h3, h4, h5, h6⟩ => ⟨T, c, y, z, h1, h2, h3, h4, h5 ys h.1, h6 zs h.2⟩⟩
end SWL
set_option Elab.async false
set_option linter.all false
set_option maxRecDepth 100000
set_option maxHeartbeats 4000000
namespace SWL
open PySem PySem.Spec PyProof.Rows L2 LamX
/-! len(x) by an own __len__ -/
section
variable {X : Cx}
theorem cr_lenO {k : Nat} {f C : Addr} {fd : FuncData} {p : Str} {sp : Sp} (hm : Meth X.K C "__len__" f) (F : FnOk X.prog X.w X.K X.mg X.base CX0 k f fd [p] sp) (hb : Binds X.K fd [p] []) (hr : Room (k + 1) X.A) :
    CallR X (.builtin "len") (fun xs H Q => ∃ a dx fs, xs = [.ref a] ∧ H a = some (.ins C dx fs) ∧ sp [.ref a] H (fun v H' => ∃ n : Nat, v = .int ((n : Nat) : Int) ∧ n < 1000000 ∧ Q v H') E0) := by
  intro pins s σ H xs us Q I r h
  obtain ⟨a, dx, fs, rfl, ea, q⟩ := h
  obtain ⟨u, rfl, ru⟩ := vals1 r
  obtain rfl : u = Value.ref a := ru
  obtain ⟨mA, O, _⟩ := ins_get I.hok ea
  have sp1 : PySem.W.Looks (model X.prog X.w) s.heap (specialOf (.ref a) "__len__") (some (.ref f)) := (NwA.type_at O.obj rfl).andThen (PySem.W.looks_findIn I.kIn hm.at_)
  refine Calls.call_function_entry kind_len plain_len entry_len (args_len1 _) ?_
  unfold Builtin.«len»
  refine wpAny_bind (m := oneArg "len" _) (wpAny_pure ?_)
  refine wpAny_bind (m := callSpecial? (.ref a) (PySem.Str.ofString "__len__")) (wpAny_bind (sp1.here (wpAny_holding (wpAny_bind ((PySem.W.bind_fn I.kIn _ (beq_iff_eq.mp hm.fn)).here (wpAny_bind (callIn (x := V.ref a) (u := Value.ref a) F hb hr.in1 rfl I rfl q fun v w H' s' J rv hq _ => wpAny_pure ?_)))))))
  obtain ⟨n, en, hn, q2⟩ := hq
  subst en
  obtain ⟨t, rfl⟩ : ∃ t, w = .int ((n : Nat) : Int) t := rv
  refine wpAny_bind (wpAny_holding (wpAny_pure ?_))
  refine wpAny_bind (wpAny_letGo ?_)
  show wpAny _ _ (if ((n : Nat) : Int) < 0 then _ else _) _ _ _
  rw [if_neg (by omega)]
  show wpAny _ _ (if ((n : Nat) : Int) ≥ 2 ^ 63 then _ else _) _ _ _
  rw [if_neg (by omega)]
  exact wpAny_bind (wpAny_mkInt (wpAny_pure ⟨_, rfl, .int n, H', J.tok _, ⟨_, rfl⟩, q2⟩))
end
end SWL
set_option Elab.async false
set_option linter.all false
set_option maxRecDepth 100000
set_option maxHeartbeats 4000000
namespace SWL
open PySem PySem.Spec PyProof.Rows L2
/-! dicts whose keys are tuples: sorted(d), dict(list of pairs); a list extended by a tuple -/
def rSortD : List V → Hp → VK → Prop := fun xs H Q => ∃ d kvs, xs = [.ref d] ∧ H d = some (.dT kvs) ∧ PySem.W.AllAlike ((kvs.map (·.1)).map encT) ∧ (∀ x ∈ kvs, x.1 ≠ []) ∧
  ∀ qs : List (Addr × List Key), (∀ q ∈ qs, H q.1 = some (.tup (q.2.map kV))) → qs.map (·.2) = (kvs.map (·.1)).mergeSort (PySem.W.dataLe false encT) → ∀ p, H p = none → Q (.ref p) (upd H p (.lst (qs.map fun q => .ref q.1)))
def rExtT : V → List V → Hp → VK → Prop := fun x vs H Q => ∃ l b xs zs, x = .ref l ∧ vs = [.ref b] ∧ H l = some (.lst xs) ∧ H b = some (.tup zs) ∧ xs.length + zs.length ≤ sizeLine ∧ Q .non (upd H l (.lst (xs ++ zs)))
def putAll (kvs : List (List Key × V)) : List PairIn → List (List Key × V)
  | [] => kvs
  | p :: ps => putAll (putK kvs p.key p.val) ps
def rDictT : List V → Hp → VK → Prop := fun xs H Q => ∃ (a : Addr) (ps : List PairIn), xs = [.ref a] ∧ H a = some (.lst (ps.map fun p => .ref p.at_)) ∧ (∀ p ∈ ps, p.ok H) ∧ ∀ d, H d = none → Q (.ref d) (upd H d (.dT (putAll [] ps)))
theorem kt_keys {H : Hp} {kvs : List (List Key × V)} {xs : List (List Key × Addr × Value)} (r : KT H kvs xs) : kvs.map (·.1) = xs.map (·.1) ∧ ∀ x ∈ xs, H x.2.1 = some (.tup (x.1.map kV)) := by
  unfold KT at r
  induction r with
  | nil => exact ⟨rfl, fun x hx => nomatch hx⟩
  | @cons p q ps qs h t ih =>
    refine ⟨by rw [List.map_cons, List.map_cons, h.1, ih.1], fun x hx => ?_⟩
    rcases List.mem_cons.mp hx with rfl | hx
    · rw [← h.1]
      exact h.2.1
    · exact ih.2 x hx
theorem kt_all {H : Hp} : ∀ {ps : List PairIn} {xs : List (List Key × Addr × Value)} {kvs : List (List Key × V)} {ys : List (List Key × Addr × Value)}, KT H kvs ys → Paired (fun (p : PairIn) (x : List Key × Addr × Value) => p.key = x.1 ∧ p.key_at = x.2.1 ∧ RelV p.val x.2.2 ∧ H p.key_at = some (.tup (p.key.map kV))) ps xs →
    KT H (putAll kvs ps) (storedAllH ys xs)
  | [], _, _, _, r, .nil => r
  | p :: ps, _, _, _, r, .cons (b := x) h t => by
    obtain ⟨h1, h2, h3, h4⟩ := h
    show KT H (putAll (putK _ p.key p.val) ps) (storedAllH (storedH _ x.1 x.2.1 x.2.2) _)
    rw [← h1, ← h2]
    exact kt_all (r.put p.key h4 h3) t
section
variable {X : Cx}
theorem cr_sortedD (hc : X.calm = true) (hu : X.A.units + 64 < cLine) : CallR X (.builtin "sorted") rSortD := by
  intro pins s σ H xs us Q I rel h
  obtain ⟨d, kvs, rfl, hd, hal, hne, q⟩ := h
  obtain ⟨u, rfl, ru⟩ := vals1 rel
  cases ru
  obtain ⟨z, lo, ys, kt, dd⟩ := dt_of I.hok hd
  obtain ⟨ek, hH⟩ := kt_keys kt
  refine sorted_dictH (X := X) (pins := pins) (σ := σ) (H := H) (xs := ys) hc hu I lo dd (by rw [← Paired.length kt]; exact z) (by rw [← ek]; exact hal) (fun x hx => ?_) fun zs hzs p hp => ?_
  · have : x.1 ∈ kvs.map (·.1) := by rw [ek]; exact List.mem_map.mpr ⟨x, hx, rfl⟩
    obtain ⟨y, hy, e⟩ := List.mem_map.mp this
    rw [← e]
    exact hne y hy
  · have e1 : (zs.map fun y => V.ref y.2.1) = ((zs.map fun y => (y.2.1, y.1)).map fun q => V.ref q.1) := by rw [List.map_map]; rfl
    rw [e1]
    refine q (zs.map fun y => (y.2.1, y.1)) (fun b hb => ?_) ?_ p hp
    · obtain ⟨y, hy, rfl⟩ := List.mem_map.mp hb
      rw [hzs] at hy
      exact hH y ((List.mergeSort_perm _ _).mem_iff.mp hy)
    · rw [List.map_map, ek, hzs]
      exact PySem.W.sort_maps (fun y : List Key × Addr × Value => y.1) fun _ _ _ _ => rfl
theorem mt_extendT : MtM X "list.extend" rExtT := by
  intro pins s σ H x vs v us Q I rx rv h
  obtain ⟨l, b, xs, zs, rfl, rfl, kl, kb, hz, q⟩ := h
  cases rx
  obtain ⟨u, rfl, ru⟩ := rv.one
  cases ru
  obtain ⟨z, its, n, r, zl, e⟩ := I.lstM kl
  obtain ⟨_, ts, r2, o2, t1, t2, n2, t3⟩ := (show ObjOk X.prog X.w H s.heap b (.tup zs) from I.hok b _ kb)
  have few : its.toArray.size + ts.toArray.size ≤ sizeLine := by
    rw [List.size_toArray, List.size_toArray, ← r.length, ← r2.length]
    exact hz
  have nlong : ¬ (!its.toArray.isEmpty && Builtin.List.listTooLong (its.toArray.size + ts.toArray.size)) = true := by
    rw [notLongL few, Bool.and_false]
    exact Bool.false_ne_true
  refine wpAny_call_entry F.slot_list_extend ⟨_, e, rfl⟩ F.entry_list_extend ?_ (F.args_list_extend_2 _ _)
  unfold Builtin.«list.extend»
  refine wpAny_bind (m := selfAndOne "list.extend" _) (wpAny_pure ?_)
  show wpAny _ _ (Builtin.List.listExtendWith (.ref l) (.ref b) .none) _ _ s
  unfold Builtin.List.listExtendWith
  refine wpAny_bind (wpAny_typeOf (T := "tuple") ⟨o2, t1, t2⟩ ?_)
  rw [if_pos (by simp)]
  refine wpAny_bind (listItems_at t1 t3 (wpAny_bind (listItems_at e rfl ?_)))
  rw [if_neg nlong]
  refine wpAny_bind (listUpdate_at e rfl ?_ (by omega) (by rw [Array.size_append]; omega))
  refine wpAny_pure ⟨.none, rfl, .non, _, I.lset (t' := s.toks) (its' := its ++ ts) kl e (by simp) (r.append r2) ?_, rfl, q⟩
  rw [List.length_append]
  exact hz
theorem cr_dictT (hc : X.calm = true) (hu : X.A.units + 64 < cLine) : CallR X (.type "dict") rDictT := by
  intro pins s σ H xs us Q I rel h
  obtain ⟨a, ps, rfl, hl, hok, q⟩ := h
  obtain ⟨u, rfl, ru⟩ := vals1 rel
  cases ru
  obtain ⟨hz0, its, n0, rv, ho⟩ := (show ObjOk X.prog X.w H s.heap a (.lst _) from I.hok _ _ hl)
  have hz : ps.length ≤ sizeLine := by rw [List.length_map] at hz0; exact hz0
  have eits := vals_refs rv
  have hh := I.ok.hd hc
  have there : ∀ l : List PairIn, (∀ p ∈ l, p.ok H) → ∃ ys : List (List Key × Addr × Value), Paired (fun (p : PairIn) (x : List Key × Addr × Value) => p.key = x.1 ∧ p.key_at = x.2.1 ∧ RelV p.val x.2.2 ∧ H p.key_at = some (.tup (p.key.map kV)) ∧ PairAt s.heap p.at_ (.ref p.key_at) x.2.2) l ys := by
    intro l
    induction l with
    | nil => exact fun _ => ⟨[], .nil⟩
    | cons p l ih =>
      intro hp
      obtain ⟨ys, t⟩ := ih fun b hb => hp b (List.mem_cons_of_mem _ hb)
      obtain ⟨h1, h2⟩ := hp p List.mem_cons_self
      obtain ⟨_, us, r1, t1⟩ := (show ObjOk X.prog X.w H s.heap p.at_ (.tup [.ref p.key_at, p.val]) from I.hok _ _ h1)
      obtain ⟨u1, u2, rfl, rr1, rr2⟩ := vals2 r1
      cases rr1
      exact ⟨(p.key, p.key_at, u2) :: ys, .cons ⟨rfl, rfl, rr2, h2, .inl t1⟩ t⟩
  obtain ⟨ys, pr⟩ := there ps hok
  have hlen : ps.length = ys.length := Paired.length pr
  have at_j : ∀ (j : Nat) (y : List Key × Addr × Value), ys[j]? = some y → ∃ p, ps[j]? = some p ∧ p.key = y.1 ∧ p.key_at = y.2.1 ∧ H p.key_at = some (.tup (p.key.map kV)) ∧ PairAt s.heap p.at_ (.ref p.key_at) y.2.2 := by
    have gen : ∀ {l : List PairIn} {zs : List (List Key × Addr × Value)}, Paired (fun (p : PairIn) (x : List Key × Addr × Value) => p.key = x.1 ∧ p.key_at = x.2.1 ∧ RelV p.val x.2.2 ∧ H p.key_at = some (.tup (p.key.map kV)) ∧ PairAt s.heap p.at_ (.ref p.key_at) x.2.2) l zs → ∀ (j : Nat) (y : List Key × Addr × Value), zs[j]? = some y → ∃ p, l[j]? = some p ∧ p.key = y.1 ∧ p.key_at = y.2.1 ∧ H p.key_at = some (.tup (p.key.map kV)) ∧ PairAt s.heap p.at_ (.ref p.key_at) y.2.2 := by
      intro l zs pr
      induction pr with
      | nil => intro j y e; simp at e
      | @cons p x l zs h t ih =>
        intro j y e
        cases j with
        | zero =>
          obtain rfl := Option.some.inj e
          exact ⟨p, rfl, h.1, h.2.1, h.2.2.2.1, h.2.2.2.2⟩
        | succ j => exact ih j y e
    exact gen pr
  let Ts : Nat → Addr := fun j => ((ps[j]?).map (·.at_)).getD 0
  let psv : List (Value × Value) := ys.map fun x => (Value.ref x.2.1, x.2.2)
  have hpsv : psv.length = ps.length := by rw [List.length_map, hlen]
  have of_psv : ∀ (j : Nat) (k v : Value), psv[j]? = some (k, v) → ∃ p y, ps[j]? = some p ∧ ys[j]? = some y ∧ k = .ref p.key_at ∧ v = y.2.2 ∧ y = (p.key, p.key_at, v) ∧ PairAt s.heap p.at_ k v := by
    intro j k v e
    rw [List.getElem?_map] at e
    cases e2 : ys[j]? with
    | none => rw [e2] at e; simp at e
    | some y =>
      rw [e2] at e
      obtain ⟨p, e3, k1, k2, _, pa⟩ := at_j j y e2
      cases e
      refine ⟨p, y, e3, rfl, by rw [k2], rfl, ?_, by rw [← k2]; exact pa⟩
      rw [k1, k2]
  refine PySem.call_dict_pairsH (A := X.A) (s := s) (knd := tupleKind (mixKind X.prog X.w)) (ps := ys) (PairArg.list a its.toArray Ts psv) hh ?room ⟨⟨_, _, ho, rfl, rfl, rfl⟩, ?items⟩ ?hc ?hst (by rw [hpsv]; exact hz) fun h' tk hD hk => ?fin
  case items =>
    refine ⟨?_, fun j k v e => ?_⟩
    · rw [List.size_toArray, eits, List.length_map, hpsv]
    · obtain ⟨p, y, e1, _, _, _, _, pa⟩ := of_psv j k v e
      have eT : Ts j = p.at_ := by show ((ps[j]?).map (·.at_)).getD 0 = _; rw [e1]; rfl
      rw [eT]
      refine ⟨?_, pa⟩
      rw [List.getElem?_toArray, eits, List.getElem?_map, e1]
      rfl
  case hc =>
    refine ⟨by rw [hpsv, hlen], fun i key v e => ?_⟩
    obtain ⟨p, y, _, e2, ek, _, ey, _⟩ := of_psv i key v e
    exact ⟨p.key, p.key_at, by rw [e2, ey], ek⟩
  case hst =>
    intro h2 hk2 x hxm
    obtain ⟨j, hj⟩ := List.getElem?_of_mem hxm
    obtain ⟨p, _, k1, k2, hp, _⟩ := at_j j x hj
    obtain ⟨o, its2, n2, z1, z2, z3, z4⟩ := key_of I.hok hp
    rw [← k1, ← k2]
    exact ⟨o, its2, n2, hk2 _ _ (Nat.ne_of_lt (Heap.lt_size z1)) (by simp) z1, z2, z3, z4⟩
  case room =>
    show X.A.units + 1 + 1 < cLine
    omega
  case fin =>
    have kt := kt_all (H := H) (kvs := []) (ys := []) .nil (Paired.mapP pr fun _ _ z => ⟨z.1, z.2.1, z.2.2.1, z.2.2.2.1⟩)
    obtain ⟨o, es, ep, d1, d2, d3, d4, _, d5⟩ := hD
    have few := storedAllH_length ys []
    have nd := I.hok.fresh (Nat.le_refl s.heap.objs.size)
    refine ⟨.ref s.heap.objs.size, upd H s.heap.objs.size (.dT (putAll [] ps)), I.laid (t' := tk) (fun b o e => hk b o (by simp) e) (Nat.le_refl _) ?_, rfl, q _ nd⟩
    refine ⟨by rw [Paired.length kt]; simp at few; omega, beq_eq_false_iff_ne.mpr (Nat.ne_of_gt I.big), _, kt.keeps fun c zs ec => ?_, o, es, ep, d1, d2, d3, d4, d5⟩
    rw [upd_ne (fun z => by rw [z, nd] at ec; cases ec)]
    exact ec
end
end SWL
set_option Elab.async false
set_option linter.all false
set_option maxRecDepth 100000
set_option maxHeartbeats 4000000
namespace SWL
open PySem PySem.Spec PyProof.Rows L2
/-! {t: v for t in xs}, the keys tuples of numbers and texts -/
section
variable {X : Cx} {pins : List (Addr × Obj)} {σ : L2.St} {H : Hp} {s : Shared}
/-- one more row of the new dict -/
theorem row_in {E : Value → Shared → Prop} {d b : Addr} {rows : List (List Key × V)} {key : List Key} {y : V} {r : Value} {R : Unit → Shared → Prop} (hu : X.A.units + 1 < cLine) (I : Inv X pins σ H s) (kd : H d = some (.dT rows)) (few : rows.length < sizeLine)
    (kb : H b = some (.tup (key.map kV))) (ry : RelV y r) (go : ∀ s2, Inv X pins σ (upd H d (.dT (putK rows key y))) s2 → R () s2) : wpAny (model X.prog X.w) X.A (dictSet d (.ref b) r) R E s := by
  obtain ⟨z, lo, raw, kt, dd⟩ := dt_of I.hok kd
  have z1 : raw.length ≤ sizeLine := by rw [← Paired.length kt]; exact z
  have z2 : (putK rows key y).length ≤ sizeLine := Nat.le_trans (length_putK rows key y) few
  refine wpAny_dictSet_heap (hsz := z1) (knd := tupleKind (mixKind X.prog X.w)) (show X.A.units < cLine by omega) (key_of I.hok kb) dd fun h2 d2 sb => go _ ?_
  obtain ⟨o, es, ep, e1, e2, e3, e4, _, e5⟩ := d2
  refine d_write I (by rw [kd]; exact True.intro) sb ⟨o, e1⟩ ⟨z2, lo, _, (kt.put key kb ry).keeps fun c ys ec => ?_, o, es, ep, e1, e2, e3, e4, e5⟩
  rw [upd_ne (ne_of ec kd (fun z => nomatch z))]
  exact ec
end
section
variable {X : Cx}
/-- the new dict D is filled; Wk i m: what holds before the turn i, at most m turns to come -/
def tDcT (wi : TI) (g : TG) (tk tv : TE) (own : List Nat) : TE := fun σ H Q => wi σ H fun J H1 => ∀ D, H1 D = none → ∃ Wk : Nat → Nat → Hp → Prop, (∃ m, Wk 0 m (upd H1 D (.dT []))) ∧ ∀ i m H2, Wk i m H2 →
  (J.stop i H2 ∧ Q (.ref D) H2) ∨ (J.go i H2 ∧ ∃ On : Hp → Prop, (∀ H3, On H3 → ∃ m', m' < m ∧ Wk (i + 1) m' H3) ∧ ∀ x H3, J.yld i H2 x H3 → g x (wipe σ own) H3 fun σ2 H4 => wipe σ2 own = wipe σ own ∧
    tk σ2 H4 fun y H5 => tv σ2 H5 fun z H6 => ∃ rows key b, y = .ref b ∧ H6 b = some (.tup (key.map kV)) ∧ H6 D = some (.dT rows) ∧ rows.length < sizeLine ∧ On (upd H6 D (.dT (putK rows key z))))
theorem dcT_core {pins : List (Addr × Obj)} {s0 : Shared} {σ : L2.St} {H : Hp} {Q : VK} {kx vx tg it : Expr} {sc : Scope} {own : List (Str × Nat)} {pos pos' : Pos} {wi : TI} {g : TG} {tk tv : TE} {use : Option (Value → Sem Unit)} {Qf : Value → Shared → Prop} (hu : X.A.units + 1 < cLine) (hc : X.calm = true) (hN : X.N.Nodup) (I0 : Inv X pins σ H s0) (hi : PI X tg it wi) (ok : BlkOk X.N X.env.scope sc own)
    (hg : ∀ (s : Shared) (H : Hp) (C : Addr) (cl : List (Str × Addr)) (fp : List Addr), PG (X.blk s H sc (compEnvC sc cl C X.env) fp) tg g) (hk : ∀ (s : Shared) (H : Hp) (C : Addr) (cl : List (Str × Addr)) (fp : List Addr), PE (X.blk s H sc (compEnvC sc cl C X.env) fp) kx tk)
    (hv : ∀ (s : Shared) (H : Hp) (C : Addr) (cl : List (Str × Addr)) (fp : List Addr), PE (X.blk s H sc (compEnvC sc cl C X.env) fp) vx tv) (hs : ∀ x, foldedSetIterable it X.env x = pure x) (hq : tDcT wi g tk tv (own.map (·.2)) σ H Q)
    (end_ : ∀ D C s' m H', Inv X pins σ H' s' → Q (.ref D) H' → s'.heap.Ns C m → FpOk X pins H' C → compPost (model X.prog X.w) X.A X.xe use Qf (.ref D) C (.ok .next) s') :
    wpAny (model X.prog X.w) X.A (comprehension (.DictComp kx vx [⟨tg, it, [], 0⟩] sc pos) sc X.env pos' newDict false (eval it X.env) use) Qf X.xe s0 := by
  have seen : ∀ y ∈ sc.names, y.2 = .free → ∃ c, X.env.cells.lookup y.1 = some c := fun y hy e => (ok.free y hy e).elim (fun k => I0.ok.has _ (.inl k)) (fun k => I0.ok.has _ (.inr k))
  refine wpAny_comprehension_free (use := use) rfl hs (closure_ok seen) ok.kind (fun y hy e => by rw [ok.uniq y hy, e]) (thn (hi.run pins s0 σ H _ I0 hq) fun xv sA hA => thn hA fun itv sB hB => ?_)
  obtain ⟨ia, fp, tn, J, HB, rfl, IB, T, stB, fB, q⟩ := hB
  refine wpAny_newObj_type (newEnv_comp ?_)
  have fresh : HB sB.heap.objs.size = none := IB.hok.fresh (Nat.le_refl _)
  obtain ⟨Wk, ⟨m0, w0⟩, turn⟩ := q sB.heap.objs.size fresh
  generalize eD : sB.heap.objs.size = D at fresh turn w0 ⊢
  -- the dict is laid
  generalize es : ({ sB with heap := sB.heap.push { cls := .type "dict", data := .dict #[] } } : Shared) = sC
  have hC : sC.heap = sB.heap.push { cls := .type "dict", data := .dict #[] } := by rw [← es]
  have IC : Inv X pins σ (upd HB D (.dT [])) sC := by
    rw [← es, ← eD]
    exact IB.laid (t' := sB.toks) (fun b o e => Heap.get?_push_of_some _ e) (Nat.le_refl _) (dt_empty sB.heap IB.big)
  have ltB : ∀ b ∈ fp, b < D := fun b hb => by
    obtain ⟨o, e, _⟩ := T.obj _ _ stB b hb
    rw [← eD]
    exact Heap.lt_size e
  have fC : ∀ b ∈ fp, FpOk X pins (upd HB D (.dT [])) b ∧ b < sC.heap.objs.size := fun b hb => by
    have l := ltB b hb
    refine ⟨⟨?_, (fB b hb).2⟩, by rw [hC, Heap.size_push, eD]; exact Nat.lt_succ_of_lt l⟩
    rw [upd_ne (Nat.ne_of_lt l)]
    exact (fB b hb).1
  have ID := block_start IC ok hN fC
  generalize hcl : cellsFrom (sC.heap.objs.size + 1) sc.names (cloFrom X.env.cells sc.names []) = cl at ID ⊢
  have pg := hg sC (upd HB D (.dT [])) sC.heap.objs.size cl fp
  have pk := hk sC (upd HB D (.dT [])) sC.heap.objs.size cl fp
  have pv := hv sC (upd HB D (.dT [])) sC.heap.objs.size cl fp
  show codeAny _ _ (.compStart (.DictComp kx vx [⟨tg, it, [], 0⟩] sc pos) 0 (.ref ia) (.ref D) (compEnvC sc cl sC.heap.objs.size X.env)) (compPost (model X.prog X.w) X.A X.xe use Qf (.ref D) sC.heap.objs.size) { sC with heap := pushCells (sC.heap.push { cls := .type "dict", data := .dict #[] }) sc.names }
  have off : ∀ b ∈ fp, (upd HB D (.dT [])) b = none := fun b hb => (fC b hb).1.1
  generalize hce : compEnvC sc cl sC.heap.objs.size X.env = ce at ID pg pk pv ⊢
  have cL : ce.locals = sC.heap.objs.size := by subst hce; rfl
  generalize hHC : upd HB D (.dT []) = HC at IC ID pg pk pv w0 off fC
  generalize hsD : ({ sC with heap := pushCells (sC.heap.push { cls := .type "dict", data := .dict #[] }) sc.names } : Shared) = sD at ID ⊢
  have stD : tn 0 sD.heap := T.keep _ _ _ stB fun b _ o e => by
    rw [← hsD]
    refine pushCells_keeps _ _ _ _ (Heap.get?_push_of_some _ ?_)
    rw [hC]
    exact Heap.get?_push_of_some _ e
  have stat : ∀ {σ' : L2.St} {H' : Hp} {s' : Shared}, Inv (X.blk sC HC sc ce fp) [] σ' H' s' → (∀ b ∈ fp, H' b = none) → ∀ b ∈ fp, FpOk (X.blk sC HC sc ce fp) [] H' b := fun {σ' H' s'} J' no b hb =>
    ⟨no b hb, (J'.ok.exf b hb).1, J'.ok.exfs b hb, .inl hb, fun x c e => (J'.ok.exf b hb).2 x c e, fun p hp => absurd (show p ∈ ([] : List (Addr × Obj)) ++ [] from hp) (by simp)⟩
  have loop : codeAny (model X.prog X.w) X.A (.compLoop (.DictComp kx vx [⟨tg, it, [], 0⟩] sc pos) 0 (.ref ia) (.ref D) ce) (compPost (model X.prog X.w) X.A X.xe use Qf (.ref D) sC.heap.objs.size) sD := by
    refine compLoop_anyD (fun m s' => ∃ i H', Inv (X.blk sC HC sc ce fp) [] (wipe σ (own.map (·.2))) H' s' ∧ tn i s'.heap ∧ (∀ b ∈ fp, H' b = none) ∧ Wk i m H') ?_ m0 ⟨0, HC, ID, stD, off, w0⟩
    rintro m sE ⟨i, HE, IE, stE, nE, wE⟩
    rcases turn i m HE wE with ⟨stop, qq⟩ | ⟨go, On, hOn, step⟩
    · refine thnF (T.done (X.blk sC HC sc ce fp) rfl rfl rfl hc i [] sE _ HE (fun _ _ => False) IE (stat IE nE) stE stop) fun r sF ⟨hr, IF⟩ => ?_
      subst hr
      have out : Inv X pins σ HE sF := IC.call' (ch := fp) IF.os IF.base IF.hok IF.bare fun b hb => ⟨(fC b hb).1.2.2.2.1, (fC b hb).1.2.1, (fC b hb).1.2.2.2.2.1, (fC b hb).1.2.2.2.2.2⟩
      have nL : HE sC.heap.objs.size = none := by rw [← cL]; exact IF.free
      obtain ⟨mC, nsC, _⟩ := IF.loc
      have nsC : sF.heap.Ns ce.locals mC := nsC
      rw [cL] at nsC
      exact end_ D sC.heap.objs.size sF mC HE out qq nsC (IC.fpOk (Nat.le_refl _) nL)
    · refine thnF (T.item (X.blk sC HC sc ce fp) rfl rfl rfl hc i [] sE _ HE (fun _ _ => False) IE (stat IE nE) stE go) fun r sF ⟨u, hr, hF⟩ => ?_
      subst hr
      refine thnF hF fun _ sG ⟨x, HG, IG, rG, yG, stG, nG⟩ => ?_
      have IG' := IG.pinned (stat IG nG) (T.obj _ _ stG)
      refine thnF (pg.run _ sG _ HG x u _ IG' rG (step x HG yG)) fun _ sH ⟨σH, HH, IH, wH, qH⟩ => ?_
      refine thnF ((show PTs (X.blk sC HC sc ce fp) [] tYes from pts_nil).run _ sH σH HH (fun b H' => b = true ∧ H' = HH) IH ⟨rfl, rfl⟩) fun b sI ⟨HI, II, eb, eH⟩ => ?_
      subst eb eH
      rw [if_pos rfl]
      refine thnF (pk.run _ sI σH HI _ II qH) fun kv sJ ⟨yk, HJ, IJ, rJ, qJ⟩ => thnF (pv.run _ sJ σH HJ _ IJ qJ) fun vv sK ⟨yv, HK, IK, rK, rows, key, b, ek, kb, kD, few, on⟩ => ?_
      subst ek
      cases (show kv = Value.ref b from rJ)
      refine row_in (X := X.blk sC HC sc ce fp) hu IK kD few kb rK fun sM IM => ?_
      obtain ⟨m', hm, w'⟩ := hOn _ on
      have pin' : ∀ b ∈ fp, ∀ o, sG.heap.get? b = some o → sM.heap.get? b = some o ∧ _ := fun b hb o e =>
        let z := IM.pin (b, o) (List.mem_append_right _ (List.mem_append_right _ (mem_pinsAt hb e)))
        ⟨z.1, z.2.1⟩
      have hl : (wipe σ (own.map (·.2))).length = σH.length := by rw [← wH, wipe_length]
      refine ⟨m', hm, i + 1, _, (IM.unpinned (pins := [])).weak hl (fun j v e => ?_), T.keep _ _ _ stG fun b hb o e => (pin' b hb o e).1, fun b hb => ?_, w'⟩
      · rw [← wH] at e
        exact (wipe_some e).1
      · obtain ⟨o, e, _⟩ := T.obj _ _ stG b hb
        exact (pin' b hb o e).2
  exact codeAny_compStart_dict loop (T.self X.A 0 _ _ _ stD loop)
theorem pe_dcT {kx vx tg it : Expr} {sc : Scope} {own : List (Str × Nat)} {pos : Pos} {wi : TI} {g : TG} {tk tv : TE} (hu : X.A.units + 1 < cLine) (hc : X.calm = true) (hN : X.N.Nodup) (hi : PI X tg it wi) (ok : BlkOk X.N X.env.scope sc own)
    (hg : ∀ (s : Shared) (H : Hp) (C : Addr) (cl : List (Str × Addr)) (fp : List Addr), PG (X.blk s H sc (compEnvC sc cl C X.env) fp) tg g) (hk : ∀ (s : Shared) (H : Hp) (C : Addr) (cl : List (Str × Addr)) (fp : List Addr), PE (X.blk s H sc (compEnvC sc cl C X.env) fp) kx tk)
    (hv : ∀ (s : Shared) (H : Hp) (C : Addr) (cl : List (Str × Addr)) (fp : List Addr), PE (X.blk s H sc (compEnvC sc cl C X.env) fp) vx tv) (hs : ∀ x, foldedSetIterable it X.env x = pure x := by intro _; rfl) :
    PE X (.DictComp kx vx [⟨tg, it, [], 0⟩] sc pos) (tDcT wi g tk tv (own.map (·.2))) := by
  refine ⟨fun pins s0 σ H Q I0 hq => ?_⟩
  rw [arm_eval_DictComp]
  refine dcT_core hu hc hN I0 hi ok hg hk hv hs hq fun D C s2 m H2 out qq ns fo => ⟨m, ns, fun h2 sb => ?_⟩
  obtain ⟨f0, f1, f2, f3, f4, f5⟩ := fo
  exact ⟨.ref D, H2, out.turned (t' := s2.toks) (fun b o hb e => (sb.2 b hb).trans e) f0 f1 f3 f4 f5, rfl, qq⟩
/-- name = {..: .. for ..}, the name a local -/
theorem ps_setDcT {i : Nat} {y : Str} {py : Pos} {kx vx tg it : Expr} {sc : Scope} {own : List (Str × Nat)} {pos spos : Pos} {wi : TI} {g : TG} {tk tv : TE} (hu : X.A.units + 1 < cLine) (hc : X.calm = true) (hN : X.N.Nodup) (hy : X.N[i]? = some y) (yl : X.env.scope.names.lookup y = some .local)
    (used : swapsWith (.DictComp kx vx [⟨tg, it, [], 0⟩] sc pos) (some (.Name y py)) spos.line X.env = pure true) (hi : PI X tg it wi) (ok : BlkOk X.N X.env.scope sc own)
    (hg : ∀ (s : Shared) (H : Hp) (C : Addr) (cl : List (Str × Addr)) (fp : List Addr), PG (X.blk s H sc (compEnvC sc cl C X.env) fp) tg g) (hk : ∀ (s : Shared) (H : Hp) (C : Addr) (cl : List (Str × Addr)) (fp : List Addr), PE (X.blk s H sc (compEnvC sc cl C X.env) fp) kx tk)
    (hv : ∀ (s : Shared) (H : Hp) (C : Addr) (cl : List (Str × Addr)) (fp : List Addr), PE (X.blk s H sc (compEnvC sc cl C X.env) fp) vx tv) (hs : ∀ x, foldedSetIterable it X.env x = pure x := by intro _; rfl) :
    PS X (.Assign [.Name y py] (.DictComp kx vx [⟨tg, it, [], 0⟩] sc pos) spos) (tAsg (tDcT wi g tk tv (own.map (·.2))) (gName i)) := by
  refine ⟨fun pins s0 σ H D I0 hq => ?_⟩
  rw [exec_Assign_Name_used _ _ _ _ used]
  refine wpAny_bind (wpAny_standAt (wpAny_bind ?_))
  show wpAny _ X.A (do let _ ← comprehension (.DictComp kx vx [⟨tg, it, [], 0⟩] sc pos) sc X.env (firstIterPos [⟨tg, it, [], 0⟩] pos) newDict false (eval it X.env) (some (assign (.Name y py) X.env))) _ _ s0
  have hq : tDcT wi g tk tv (own.map (·.2)) σ H (fun x H1 => gName i x σ H1 D.nx) := hq
  refine wpAny_bind (thn (dcT_core (Qf := fun _ s2 => SP X pins D .next s2) hu hc hN I0 hi ok hg hk hv hs hq fun d C s2 m H2 out qq ns fo => ?_) fun _ s2 q2 => wpAny_pure (wpAny_pure q2))
  show wpAny _ _ (assign (.Name y py) X.env (.ref d)) _ _ _
  refine wpAny_assign_Name (store_ok2 (v := V.ref d) out hN hy (.inl yl) rfl (fun s3 I3 ⟨a, sa, ea⟩ => ?_) (.inr yl))
  obtain ⟨f0, f1, f2, f3, f4, f5⟩ := fo
  have Ca : C ≠ a := ea.elim (fun z => by rw [z]; exact f1) fun z e => f4 y a z e.symm
  exact ⟨m, ns.sameBut sa Ca, fun h3 sb => ⟨_, H2, I3.turned (t' := s3.toks) (fun b o hb e => (sb.2 b hb).trans e) f0 f1 f3 f4 f5, qq⟩⟩
theorem sw_trueD {kx vx : Expr} {gs : List Comprehension} {sc : Scope} {pos py : Pos} {y : Str} {l : Nat} {env : Env} (kf : env.scope.kind = .function) (yl : env.scope.names.lookup y = some .local) (one : (py.line == pos.line) = true)
    (no : (sc.names.any fun (n, k) => n == y && (k == .local || k == .cell)) = false) : swapsWith (.DictComp kx vx gs sc pos) (some (.Name y py)) l env = pure true := by
  have k1 : env.kindOf y = some .local := yl
  have k2 : env.blockKind = .function := by
    unfold Env.blockKind
    rw [kf]
    rfl
  unfold swapsWith
  simp only [k2, k1, no, Expr.pos, one]
  rfl
end
end SWL
set_option Elab.async false
set_option linter.all false
set_option maxRecDepth 100000
set_option maxHeartbeats 4000000
namespace SWL
open PySem PySem.Spec
/-! the mathematics: words of one type by n -/
abbrev Wl := List Nat
def Same : Nat → Wl → Wl → Prop
  | 0 => fun _ _ => True
  | n + 1 => fun u v => (∀ i c, u[i]? = some c → ∃ j, v[j]? = some c ∧ Same n (u.take i) (v.take j) ∧ Same n (u.drop (i + 1)) (v.drop (j + 1))) ∧
      (∀ j c, v[j]? = some c → ∃ i, u[i]? = some c ∧ Same n (u.take i) (v.take j) ∧ Same n (u.drop (i + 1)) (v.drop (j + 1)))
theorem same_refl : ∀ (n : Nat) (u : Wl), Same n u u
  | 0, _ => True.intro
  | n + 1, u => ⟨fun i c h => ⟨i, h, same_refl n _, same_refl n _⟩, fun i c h => ⟨i, h, same_refl n _, same_refl n _⟩⟩
theorem same_symm : ∀ (n : Nat) {u v : Wl}, Same n u v → Same n v u
  | 0, _, _, _ => True.intro
  | n + 1, u, v, h => ⟨fun i c hi => by
      obtain ⟨j, h1, h2, h3⟩ := h.2 i c hi
      exact ⟨j, h1, same_symm n h2, same_symm n h3⟩, fun i c hi => by
      obtain ⟨j, h1, h2, h3⟩ := h.1 i c hi
      exact ⟨j, h1, same_symm n h2, same_symm n h3⟩⟩
theorem same_trans : ∀ (n : Nat) {u v w : Wl}, Same n u v → Same n v w → Same n u w
  | 0, _, _, _, _, _ => True.intro
  | n + 1, u, v, w, h, k => ⟨fun i c hi => by
      obtain ⟨j, h1, h2, h3⟩ := h.1 i c hi
      obtain ⟨l, k1, k2, k3⟩ := k.1 j c h1
      exact ⟨l, k1, same_trans n h2 k2, same_trans n h3 k3⟩, fun i c hi => by
      obtain ⟨j, h1, h2, h3⟩ := k.2 i c hi
      obtain ⟨l, k1, k2, k3⟩ := h.2 j c h1
      exact ⟨l, k1, same_trans n k2 h2, same_trans n k3 h3⟩⟩
theorem same_mono : ∀ (n : Nat) {u v : Wl}, Same (n + 1) u v → Same n u v
  | 0, _, _, _ => True.intro
  | n + 1, u, v, h => ⟨fun i c hi => by
      obtain ⟨j, h1, h2, h3⟩ := h.1 i c hi
      exact ⟨j, h1, same_mono n h2, same_mono n h3⟩, fun i c hi => by
      obtain ⟨j, h1, h2, h3⟩ := h.2 i c hi
      exact ⟨j, h1, same_mono n h2, same_mono n h3⟩⟩
theorem same_le {n m : Nat} {u v : Wl} (hm : m ≤ n) (h : Same n u v) : Same m u v := by
  induction n with
  | zero =>
    obtain rfl : m = 0 := Nat.le_zero.mp hm
    exact h
  | succ n ih =>
    by_cases e : m = n + 1
    · rw [e]; exact h
    · exact ih (by omega) (same_mono n h)
/-- places from the other end -/
theorem rev_place {u : Wl} {i c : Nat} (h : u.reverse[i]? = some c) : i < u.length ∧ u[u.length - 1 - i]? = some c ∧ u.reverse.take i = (u.drop (u.length - 1 - i + 1)).reverse ∧ u.reverse.drop (i + 1) = (u.take (u.length - 1 - i)).reverse := by
  have hi := (List.getElem?_eq_some_iff.mp h).1
  rw [List.length_reverse] at hi
  refine ⟨hi, ?_, ?_, ?_⟩
  · rw [List.getElem?_reverse hi] at h
    exact h
  · rw [List.take_reverse, show u.length - i = u.length - 1 - i + 1 by omega]
  · rw [List.drop_reverse, show u.length - (i + 1) = u.length - 1 - i by omega]
theorem place_rev {u : Wl} {j c : Nat} (h : u[j]? = some c) : u.reverse[u.length - 1 - j]? = some c ∧ u.reverse.take (u.length - 1 - j) = (u.drop (j + 1)).reverse ∧ u.reverse.drop (u.length - 1 - j + 1) = (u.take j).reverse := by
  have hj := (List.getElem?_eq_some_iff.mp h).1
  refine ⟨?_, ?_, ?_⟩
  · rw [List.getElem?_reverse (by omega), show u.length - 1 - (u.length - 1 - j) = j by omega]
    exact h
  · rw [List.take_reverse, show u.length - (u.length - 1 - j) = j + 1 by omega]
  · rw [List.drop_reverse, show u.length - (u.length - 1 - j + 1) = j by omega]
theorem same_rev' : ∀ (n : Nat) {u v : Wl}, Same n u v → Same n u.reverse v.reverse
  | 0, _, _, _ => True.intro
  | n + 1, u, v, h => by
    refine ⟨fun i c hi => ?_, fun i c hi => ?_⟩
    · obtain ⟨h0, h1, h2, h3⟩ := rev_place hi
      obtain ⟨j, k1, k2, k3⟩ := h.1 _ c h1
      obtain ⟨l1, l2, l3⟩ := place_rev k1
      refine ⟨v.length - 1 - j, l1, ?_, ?_⟩
      · rw [h2, l2]
        exact same_rev' n k3
      · rw [h3, l3]
        exact same_rev' n k2
    · obtain ⟨h0, h1, h2, h3⟩ := rev_place hi
      obtain ⟨j, k1, k2, k3⟩ := h.2 _ c h1
      obtain ⟨l1, l2, l3⟩ := place_rev k1
      refine ⟨u.length - 1 - j, l1, ?_, ?_⟩
      · rw [h2, l2]
        exact same_rev' n k3
      · rw [h3, l3]
        exact same_rev' n k2
theorem same_rev {n : Nat} {u v : Wl} : Same n u.reverse v.reverse ↔ Same n u v :=
  ⟨fun h => by
    have := same_rev' n h
    rw [List.reverse_reverse, List.reverse_reverse] at this
    exact this, same_rev' n⟩
/-- a word of at most so many letters is told from all others -/
def bnd : Nat → Nat
  | 0 => 0
  | n + 1 => 2 * bnd n + 1
theorem cut_at {u : Wl} {i c : Nat} (h : u[i]? = some c) : u = u.take i ++ c :: u.drop (i + 1) := by
  have hi := (List.getElem?_eq_some_iff.mp h).1
  have e := List.take_append_drop i u
  rw [List.drop_eq_getElem_cons hi] at e
  have ec : u[i] = c := by
    rw [List.getElem?_eq_getElem hi] at h
    exact Option.some.inj h
  rw [ec] at e
  exact e.symm
theorem same_eq : ∀ (n : Nat) {u v : Wl}, u.length ≤ bnd n → Same (n + 1) u v → u = v
  | 0, u, v, hu, h => by
    have : u = [] := List.length_eq_zero_iff.mp (Nat.le_zero.mp hu)
    subst this
    cases v with
    | nil => rfl
    | cons c v =>
      obtain ⟨i, h1, _⟩ := h.2 0 c rfl
      cases h1
  | n + 1, u, v, hu, h => by
    have hb : bnd (n + 1) = 2 * bnd n + 1 := rfl
    by_cases h0 : u.length = 0
    · have : u = [] := List.length_eq_zero_iff.mp h0
      subst this
      cases v with
      | nil => rfl
      | cons c v =>
        obtain ⟨i, h1, _⟩ := h.2 0 c rfl
        cases h1
    · have hi : (u.length - 1) / 2 < u.length := by omega
      obtain ⟨j, h1, h2, h3⟩ := h.1 _ _ (List.getElem?_eq_getElem hi)
      have e1 := same_eq n (by rw [List.length_take]; omega) h2
      have e2 := same_eq n (by rw [List.length_drop]; omega) h3
      rw [cut_at (List.getElem?_eq_getElem hi), cut_at h1, e1, e2]
/-- so many times one letter -/
theorem same_rep : ∀ (n i j c : Nat), (i = j ∨ (2 ^ n ≤ i + 1 ∧ 2 ^ n ≤ j + 1)) → Same n (List.replicate i c) (List.replicate j c)
  | 0, _, _, _, _ => True.intro
  | n + 1, i, j, c, h => by
    have p1 : 1 ≤ 2 ^ n := Nat.one_le_two_pow
    have p2 : 2 ^ (n + 1) = 2 ^ n + 2 ^ n := by rw [Nat.pow_succ]; omega
    have one : ∀ i j : Nat, (i = j ∨ (2 ^ (n + 1) ≤ i + 1 ∧ 2 ^ (n + 1) ≤ j + 1)) → ∀ a d, (List.replicate i c)[a]? = some d → ∃ b, (List.replicate j c)[b]? = some d ∧ Same n ((List.replicate i c).take a) ((List.replicate j c).take b) ∧ Same n ((List.replicate i c).drop (a + 1)) ((List.replicate j c).drop (b + 1)) := by
      intro i j h a d ha
      have hai : a < i := by
        have := (List.getElem?_eq_some_iff.mp ha).1
        rwa [List.length_replicate] at this
      have hd : d = c := List.eq_of_mem_replicate (List.mem_of_getElem? ha)
      subst hd
      -- a place with as much ahead and behind
      obtain ⟨b, hb, k1, k2⟩ : ∃ b, b < j ∧ (a = b ∨ (2 ^ n ≤ a + 1 ∧ 2 ^ n ≤ b + 1)) ∧ (i - (a + 1) = j - (b + 1) ∨ (2 ^ n ≤ i - (a + 1) + 1 ∧ 2 ^ n ≤ j - (b + 1) + 1)) := by
        rcases h with h | ⟨h1, h2⟩
        · subst h
          exact ⟨a, hai, .inl rfl, .inl rfl⟩
        · by_cases c1 : a + 1 < 2 ^ n
          · exact ⟨a, by omega, .inl rfl, .inr ⟨by omega, by omega⟩⟩
          · by_cases c2 : i - (a + 1) + 1 < 2 ^ n
            · exact ⟨j - (i - a), by omega, .inr ⟨by omega, by omega⟩, .inl (by omega)⟩
            · exact ⟨2 ^ n - 1, by omega, .inr ⟨by omega, by omega⟩, .inr ⟨by omega, by omega⟩⟩
      refine ⟨b, by rw [List.getElem?_replicate, if_pos hb], ?_, ?_⟩
      · rw [List.take_replicate, List.take_replicate, Nat.min_eq_left (by omega), Nat.min_eq_left (by omega)]
        exact same_rep n _ _ _ k1
      · rw [List.drop_replicate, List.drop_replicate]
        exact same_rep n _ _ _ k2
    refine ⟨fun a d ha => one i j h a d ha, fun a d ha => ?_⟩
    obtain ⟨b, h1, h2, h3⟩ := one j i (h.imp Eq.symm fun ⟨x, y⟩ => ⟨y, x⟩) a d ha
    exact ⟨b, h1, same_symm n h2, same_symm n h3⟩
theorem rep_same : ∀ (n i j c : Nat), i < j → Same n (List.replicate i c) (List.replicate j c) → 2 ^ n ≤ i + 1
  | 0, _, _, _, _, _ => by omega
  | n + 1, i, j, c, hij, h => by
    have p1 : 1 ≤ 2 ^ n := Nat.one_le_two_pow
    have p2 : 2 ^ (n + 1) = 2 ^ n + 2 ^ n := by rw [Nat.pow_succ]; omega
    -- what the parts of a place say
    have part : ∀ x y : Nat, Same n (List.replicate x c) (List.replicate y c) → x = y ∨ (2 ^ n ≤ x + 1 ∧ 2 ^ n ≤ y + 1) := fun x y hs => by
      rcases Nat.lt_trichotomy x y with k | k | k
      · have := rep_same n x y c k hs
        exact .inr ⟨this, by omega⟩
      · exact .inl k
      · have := rep_same n y x c k (same_symm n hs)
        exact .inr ⟨by omega, this⟩
    have at_ : ∀ b, b < j → ∃ a, a < i ∧ (a = b ∨ (2 ^ n ≤ a + 1 ∧ 2 ^ n ≤ b + 1)) ∧ (i - (a + 1) = j - (b + 1) ∨ (2 ^ n ≤ i - (a + 1) + 1 ∧ 2 ^ n ≤ j - (b + 1) + 1)) := fun b hb => by
      obtain ⟨a, h1, h2, h3⟩ := h.2 b c (by rw [List.getElem?_replicate, if_pos hb])
      have ha : a < i := by
        have := (List.getElem?_eq_some_iff.mp h1).1
        rwa [List.length_replicate] at this
      rw [List.take_replicate, List.take_replicate, Nat.min_eq_left (by omega), Nat.min_eq_left (by omega)] at h2
      rw [List.drop_replicate, List.drop_replicate] at h3
      exact ⟨a, ha, part _ _ h2, part _ _ h3⟩
    by_cases c1 : i + 1 < 2 ^ n + 1
    · obtain ⟨a, ha, k1, k2⟩ := at_ i hij
      omega
    · by_cases c2 : i + 1 < 2 ^ (n + 1)
      · obtain ⟨a, ha, k1, k2⟩ := at_ (2 ^ n - 1) (by omega)
        omega
      · omega
end SWL
set_option Elab.async false
set_option linter.all false
set_option maxRecDepth 100000
set_option maxHeartbeats 4000000
namespace SWL
open PySem PySem.Spec PyProof.Rows L2
/-! the numbers of the types: a lot is a number and triples in order -/
def sg (c : Nat) : Str := ⟨#[c]⟩
theorem sg_inj {c d : Nat} (h : sg c = sg d) : c = d := by
  unfold sg at h
  cases h
  rfl
abbrev Tri := Nat × Nat × Nat
def Lt3 (a b : Tri) : Prop := a.1 < b.1 ∨ (a.1 = b.1 ∧ (a.2.1 < b.2.1 ∨ (a.2.1 = b.2.1 ∧ a.2.2 < b.2.2)))
instance (a b : Tri) : Decidable (Lt3 a b) := by unfold Lt3; infer_instance
theorem lt3_irr (a : Tri) : ¬ Lt3 a a := by unfold Lt3; omega
theorem lt3_asym {a b : Tri} (h : Lt3 a b) : ¬ Lt3 b a := by unfold Lt3 at *; omega
theorem lt3_tri {a b : Tri} (h : ¬ Lt3 b a) (n : a ≠ b) : Lt3 a b := by
  unfold Lt3 at *
  by_cases h1 : a.1 = b.1
  · by_cases h2 : a.2.1 = b.2.1
    · have h3 : a.2.2 ≠ b.2.2 := fun e => n (Prod.ext h1 (Prod.ext h2 e))
      omega
    · omega
  · omega
theorem strict_eq {α : Type} {lt : α → α → Prop} (asym : ∀ a b, lt a b → ¬ lt b a) : ∀ {a b : List α}, a.Pairwise lt → b.Pairwise lt → (∀ c, c ∈ a ↔ c ∈ b) → a = b
  | [], [], _, _, _ => rfl
  | [], y :: b, _, _, h => absurd ((h y).mpr List.mem_cons_self) (by simp)
  | x :: a, [], _, _, h => absurd ((h x).mp List.mem_cons_self) (by simp)
  | x :: a, y :: b, ha, hb, h => by
    obtain ⟨a1, a2⟩ := List.pairwise_cons.mp ha
    obtain ⟨b1, b2⟩ := List.pairwise_cons.mp hb
    have irr : ∀ z, ¬ lt z z := fun z hz => asym z z hz hz
    have e : x = y := by
      rcases List.mem_cons.mp ((h x).mp List.mem_cons_self) with z | z
      · exact z
      · rcases List.mem_cons.mp ((h y).mpr List.mem_cons_self) with z' | z'
        · exact z'.symm
        · exact absurd (a1 y z') (asym _ _ (b1 x z))
    subst e
    rw [strict_eq asym a2 b2 fun c => ?_]
    have k := h c
    rw [List.mem_cons, List.mem_cons] at k
    constructor
    · intro hc
      exact (k.mp (.inr hc)).resolve_left fun z => irr x (by rw [z] at hc; exact a1 x hc)
    · intro hc
      exact (k.mpr (.inr hc)).resolve_left fun z => irr x (by rw [z] at hc; exact b1 x hc)
def kT (t : Tri) : List Key := [.inl ((t.1 : Nat) : Int), .inr (sg t.2.1), .inl ((t.2.2 : Nat) : Int)]
theorem kT_inj {a b : Tri} (h : kT a = kT b) : a = b := by
  unfold kT at h
  simp only [List.cons.injEq, Sum.inl.injEq, Sum.inr.injEq, and_true] at h
  obtain ⟨h1, h2, h3⟩ := h
  exact Prod.ext (by omega) (Prod.ext (sg_inj h2) (by omega))
theorem lt_sg (c d : Nat) : decide (([c] : List Nat) < [d]) = decide (c < d) := by
  refine decide_eq_decide.mpr ⟨fun h => ?_, fun h => .rel h⟩
  cases h with
  | rel h => exact h
  | cons h => cases h
theorem lt3_data (a b : Tri) : PySem.W.dataLt (encT (kT a)) (encT (kT b)) = decide (Lt3 a b) := by
  show PySem.W.dataLt (.tuple [.int (a.1 : Nat), .str (sg a.2.1), .int (a.2.2 : Nat)]) (.tuple [.int (b.1 : Nat), .str (sg b.2.1), .int (b.2.2 : Nat)]) = _
  rw [PySem.W.dataLt_tuple, PySem.W.dataLt_cons (by simp [PySem.W.alike]), PySem.W.dataLt_cons (by simp [PySem.W.alike]), PySem.W.dataLt_cons (by simp [PySem.W.alike]), PySem.W.dataLt_int, PySem.W.dataLt_int, PySem.W.dataLt_str]
  have e : PyProof.Rows.lexLt itemOrd (PySem.W.keyToksAll []) (PySem.W.keyToksAll []) = false := lex_irrefl _
  rw [e]
  have es : (sg a.2.1).cps.toList = [a.2.1] ∧ (sg b.2.1).cps.toList = [b.2.1] := ⟨rfl, rfl⟩
  rw [es.1, es.2, lt_sg]
  have q : (sg a.2.1 = sg b.2.1) ↔ a.2.1 = b.2.1 := ⟨sg_inj, fun h => by rw [h]⟩
  unfold Lt3
  simp only [PyData.eqv, beq_iff_eq, q]
  by_cases h1 : a.1 = b.1
  · by_cases h2 : a.2.1 = b.2.1
    · by_cases h3 : a.2.2 = b.2.2
      · simp [h1, h2, h3]
      · have h3' : ¬ ((a.2.2 : Int) = (b.2.2 : Int)) := by omega
        simp [h1, h2, h3']
    · have h1' : ((a.1 : Int) = (b.1 : Int)) := by omega
      simp [h1, h2]
  · have h1' : ¬ ((a.1 : Int) = (b.1 : Int)) := by omega
    rw [if_neg h1']
    refine decide_eq_decide.mpr ⟨fun h => .inl (by omega), fun h => ?_⟩
    rcases h with h | ⟨h, _⟩
    · omega
    · exact absurd h h1
abbrev LotK := Nat × List Tri
inductive Rel (L : List LotK) : Nat → Wl → Nat → Prop
  | zero (w : Wl) : Rel L 0 w 0
  | succ {n k : Nat} {w : Wl} (qs ps : List Tri) : qs.length = w.length → (∀ (i : Nat) (q : Tri), qs[i]? = some q → w[i]? = some q.2.1) → (∀ (i : Nat) (q : Tri), qs[i]? = some q → Rel L n (w.take i) q.1) → (∀ (i : Nat) (q : Tri), qs[i]? = some q → Rel L n (w.drop (i + 1)) q.2.2) →
      ps.Pairwise Lt3 → (∀ x, x ∈ ps ↔ x ∈ qs) → L[k]? = some (n + 1, ps) → Rel L (n + 1) w k
theorem Rel.more {L L' : List LotK} (g : ∀ (k : Nat) (x : LotK), L[k]? = some x → L'[k]? = some x) {n : Nat} {w : Wl} {i : Nat} (h : Rel L n w i) : Rel L' n w i := by
  induction h with
  | zero w => exact .zero w
  | succ qs ps l m _ _ p e f h1 h2 => exact .succ qs ps l m h1 h2 p e (g _ _ f)
theorem place_q {qs : List Tri} {w : Wl} (l : qs.length = w.length) (m : ∀ (i : Nat) (q : Tri), qs[i]? = some q → w[i]? = some q.2.1) {i c : Nat} (h : w[i]? = some c) : ∃ q, qs[i]? = some q ∧ q.2.1 = c := by
  have hi := (List.getElem?_eq_some_iff.mp h).1
  have e := List.getElem?_eq_getElem (l := qs) (show i < qs.length by omega)
  have := m i _ e
  rw [h] at this
  exact ⟨_, e, (Option.some.inj this).symm⟩
theorem rel_iff {L : List LotK} (nd : L.Nodup) {n : Nat} {u : Wl} {i : Nat} (h : Rel L n u i) : ∀ {v : Wl} {j : Nat}, Rel L n v j → (i = j ↔ Same n u v) := by
  induction h with
  | zero w =>
    intro v j h'
    cases h'
    exact ⟨fun _ => True.intro, fun _ => rfl⟩
  | @succ n k u qs ps l m r1 r2 p e f h1 h2 =>
    intro v j h'
    cases h' with
    | @succ _ k' _ qs' ps' l' m' s1 s2 p' e' f' =>
      constructor
      · intro eq
        subst eq
        rw [f] at f'
        have pe := (Prod.mk.inj (Option.some.inj f')).2
        subst pe
        refine ⟨fun a c ha => ?_, fun a c ha => ?_⟩
        · obtain ⟨q, hq, rfl⟩ := place_q l m ha
          have hm : q ∈ qs' := (e' q).mp ((e q).mpr (List.mem_of_getElem? hq))
          obtain ⟨b, hb, eb⟩ := List.getElem_of_mem hm
          have hb' : qs'[b]? = some q := by rw [List.getElem?_eq_getElem hb, eb]
          exact ⟨b, m' b q hb', (h1 a q hq (s1 b q hb')).mp rfl, (h2 a q hq (s2 b q hb')).mp rfl⟩
        · obtain ⟨q, hq, rfl⟩ := place_q l' m' ha
          have hm : q ∈ qs := (e q).mp ((e' q).mpr (List.mem_of_getElem? hq))
          obtain ⟨b, hb, eb⟩ := List.getElem_of_mem hm
          have hb' : qs[b]? = some q := by rw [List.getElem?_eq_getElem hb, eb]
          exact ⟨b, m b q hb', (h1 b q hb' (s1 a q hq)).mp rfl, (h2 b q hb' (s2 a q hq)).mp rfl⟩
      · rintro ⟨t1, t2⟩
        have pe : ps = ps' := strict_eq (fun _ _ => lt3_asym) p p' fun x => by
          rw [e, e']
          constructor
          · intro hx
            obtain ⟨a, ha, ea⟩ := List.getElem_of_mem hx
            have ha' : qs[a]? = some x := by rw [List.getElem?_eq_getElem ha, ea]
            obtain ⟨b, k1, k2, k3⟩ := t1 a _ (m a x ha')
            obtain ⟨y, hy, ey⟩ := place_q l' m' k1
            have e1 := (h1 a x ha' (s1 b y hy)).mpr k2
            have e2 := (h2 a x ha' (s2 b y hy)).mpr k3
            have : x = y := Prod.ext e1 (Prod.ext ey.symm e2)
            rw [this]
            exact List.mem_of_getElem? hy
          · intro hx
            obtain ⟨a, ha, ea⟩ := List.getElem_of_mem hx
            have ha' : qs'[a]? = some x := by rw [List.getElem?_eq_getElem ha, ea]
            obtain ⟨b, k1, k2, k3⟩ := t2 a _ (m' a x ha')
            obtain ⟨y, hy, ey⟩ := place_q l m k1
            have e1 := (h1 b y hy (s1 a x ha')).mpr k2
            have e2 := (h2 b y hy (s2 a x ha')).mpr k3
            have : y = x := Prod.ext e1 (Prod.ext ey e2)
            rw [← this]
            exact List.mem_of_getElem? hy
        rw [pe] at f
        have hk := (List.getElem?_eq_some_iff.mp f).1
        exact (List.getElem?_inj hk nd).mp (f.trans f'.symm)
/-! pieces of words -/
def facts1 (w : Wl) : List Wl := (List.range (w.length + 1)).flatMap fun a => (List.range (w.length + 1)).map fun b => (w.drop a).take b
theorem facts_mem {w x : Wl} : x ∈ facts1 w ↔ ∃ a b, a ≤ w.length ∧ b ≤ w.length ∧ x = (w.drop a).take b := by
  unfold facts1
  rw [List.mem_flatMap]
  constructor
  · rintro ⟨a, ha, h⟩
    obtain ⟨b, hb, e⟩ := List.mem_map.mp h
    exact ⟨a, b, Nat.le_of_lt_succ (List.mem_range.mp ha), Nat.le_of_lt_succ (List.mem_range.mp hb), e.symm⟩
  · rintro ⟨a, b, ha, hb, e⟩
    exact ⟨a, List.mem_range.mpr (by omega), List.mem_map.mpr ⟨b, List.mem_range.mpr (by omega), e.symm⟩⟩
theorem facts_len (w : Wl) : (facts1 w).length = (w.length + 1) * (w.length + 1) := by
  unfold facts1
  rw [List.length_flatMap]
  simp only [List.length_map, List.length_range]
  generalize w.length + 1 = n
  have : ∀ (l : List Nat) (k : Nat), (l.map fun _ => k).sum = l.length * k := by
    intro l k
    induction l with
    | nil => simp
    | cons a l ih => rw [List.map_cons, List.sum_cons, ih, List.length_cons, Nat.succ_mul, Nat.add_comm]
  rw [this, List.length_range]
/-- each beginning and each end of a piece is a piece -/
def Cut (U : List Wl) : Prop := ∀ u ∈ U, ∀ i, u.take i ∈ U ∧ u.drop i ∈ U
theorem facts_cut (w : Wl) : Cut (facts1 w) := fun x h i => by
  obtain ⟨a, b, ha, hb, rfl⟩ := facts_mem.mp h
  constructor
  · rw [List.take_take]
    exact facts_mem.mpr ⟨a, min i b, ha, by omega, rfl⟩
  · rw [List.drop_take, List.drop_drop]
    by_cases c : a + i ≤ w.length
    · exact facts_mem.mpr ⟨a + i, b - i, c, by omega, by rw [Nat.add_comm]⟩
    · refine facts_mem.mpr ⟨w.length, 0, Nat.le_refl _, Nat.zero_le _, ?_⟩
      rw [List.drop_eq_nil_of_le (by omega), List.take_nil]
      simp
theorem self_facts (w : Wl) : w ∈ facts1 w := facts_mem.mpr ⟨0, w.length, Nat.zero_le _, Nat.le_refl _, by simp⟩
theorem cut_app {U V : List Wl} (h : Cut U) (k : Cut V) : Cut (U ++ V) := fun x hx i => by
  rcases List.mem_append.mp hx with m | m
  · exact ⟨List.mem_append_left _ (h x m i).1, List.mem_append_left _ (h x m i).2⟩
  · exact ⟨List.mem_append_right _ (k x m i).1, List.mem_append_right _ (k x m i).2⟩
end SWL
set_option Elab.async false
set_option linter.all false
set_option maxRecDepth 100000
set_option maxHeartbeats 4000000
namespace SWL
open PySem PySem.Spec PyProof.Rows L2 LamX
def topS (i : Nat) : Stmt := PySem.Challenge.pw_swinglogic_k77_whole_bonds_of_the_second.main.body.getD i (.Pass ⟨0, 0, 0, 0⟩)
abbrev sIsNum : Stmt := topS 9
abbrev sIsL : Stmt := topS 10
abbrev sNeedL : Stmt := topS 11
abbrev sIsW : Stmt := topS 12
abbrev sNeedW : Stmt := topS 13
abbrev sInit : Stmt := inClass (topS 16) 0
abbrev sLot : Stmt := inClass (topS 16) 1
abbrev sNumber : Stmt := inClass (topS 16) 2
abbrev sAlike : Stmt := inClass (topS 16) 3
abbrev sNeedN : Stmt := topS 17
abbrev sParts : Stmt := topS 20
abbrev sPlaces : Stmt := topS 21
abbrev sGame : Stmt := topS 22
abbrev sLeastA : Stmt := topS 23
abbrev sAsked : Stmt := topS 24
abbrev sGranted : Stmt := topS 25
abbrev sBond : Stmt := topS 26
abbrev sIsTri : Stmt := topS 27
abbrev sHasA : Stmt := topS 28
abbrev sIsBond : Stmt := topS 29
abbrev sBegun : Stmt := topS 31
abbrev sMixed : Stmt := topS 32
abbrev sDraw : Stmt := topS 33
abbrev sPick : Stmt := topS 34
abbrev sPlain : Stmt := topS 35
abbrev sIs : Stmt := topS 36
abbrev sCaught : Stmt := topS 37
abbrev sOdd : Stmt := topS 38
abbrev sLawType : Stmt := topS 39
abbrev sTyPair : Stmt := topS 40
abbrev sLawGr : Stmt := topS 41
abbrev sLawBd : Stmt := topS 42
abbrev sLaw : Stmt := topS 43
/-- the module's names: what is built in, and the constants -/
structure Blt (mg : Str → Option Value) : Prop where
  isi : mg "isinstance" = none
  str : mg "str" = none
  int : mg "int" = none
  list : mg "list" = none
  tuple : mg "tuple" = none
  dict : mg "dict" = none
  len : mg "len" = none
  all : mg "all" = none
  any : mg "any" = none
  zip : mg "zip" = none
  sorted : mg "sorted" = none
  abs : mg "abs" = none
  range : mg "range" = none
  min : mg "min" = none
  repr : mg "repr" = none
  bool : mg "bool" = none
  set : mg "set" = none
  enum : mg "enumerate" = none
  max : mg "max" = none
  small : ∃ t, mg "SMALL" = some (.str "abcdefghijklmnopqrstuvwxyz" t)
  mostL : ∃ t, mg "MOST_LETTERS" = some (.int 4 t)
  mostR : ∃ t, mg "MOST_ROUNDS" = some (.int 4 t)
  longT : ∃ t, mg "LONGEST_TYPED" = some (.int 12 t)
def NotStr (K : PySem.W.Frag) (H : Hp) (x : V) : Prop := ∃ t : String, TyX K H x (.type t) ∧ kitB t "str" = some false
def smallS : Str := "abcdefghijklmnopqrstuvwxyz"
def sign0 : V → Nat
  | .str z => z.cps.toList.headD 0
  | _ => 0
def inSm (v : V) : V := .bl (decide (sign0 v ∈ smallS.cps.toList))
theorem lt_one (c d : Nat) : decide (([c] : List Nat) < [d]) = decide (c < d) := by
  refine decide_eq_decide.mpr ?_
  constructor
  · intro h
    cases h with
    | rel h => exact h
    | cons h => cases h
  · intro h
    exact .rel h
def rises : List Nat → Bool
  | a :: b :: r => decide (a < b) && rises (b :: r)
  | _ => true
theorem rises_zip : ∀ l : List Nat, ((l.zip (l.drop 1)).map fun p => decide (p.1 < p.2)).all id = rises l
  | [] => rfl
  | [a] => rfl
  | a :: b :: r => by
    have ih := rises_zip (b :: r)
    show (decide (a < b) && (((b :: r).zip ((b :: r).drop 1)).map fun p => decide (p.1 < p.2)).all id) = (decide (a < b) && rises (b :: r))
    rw [ih]
theorem cut_len (z : Str) : z.cps.toList.length = z.length := Array.length_toList
theorem cut1 (z : Str) : (cutS z (some 1) none).cps.toList = z.cps.toList.drop 1 := by
  have h1 : HT.sIx z.length 0 (some 1) = min 1 z.length := HT.sIx_nat _ _ 1
  have h2 : HT.sIx z.length z.length none = z.length := rfl
  unfold cutS
  rw [h1, h2]
  show (z.cps.toList.drop (min 1 z.length)).take (z.length - min 1 z.length) = _
  have e : z.cps.toList.drop (min 1 z.length) = z.cps.toList.drop 1 := by
    by_cases h : 1 ≤ z.length
    · rw [Nat.min_eq_left h]
    · have : z.length = 0 := by omega
      have hz : z.cps.toList = [] := List.length_eq_zero_iff.mp (by rw [cut_len]; exact this)
      rw [hz]
      simp
  rw [e]
  refine List.take_of_length_le ?_
  rw [List.length_drop, cut_len]
  omega
def okLetters (z : Str) : Bool := decide (1 ≤ z.length ∧ z.length ≤ 4) && (z.cps.toList.all (fun c => decide (c ∈ smallS.cps.toList)) && rises z.cps.toList)
def spIsL (K : PySem.W.Frag) : Sp := fun vs H Q _ => ∃ x, vs = [x] ∧ ((∃ z, x = .str z ∧ z.length ≤ sizeLine ∧ ∀ H', Grows H H' → Q (.bl (okLetters z)) H') ∨ (NotStr K H x ∧ Q (.bl false) H))
theorem if_neg_of {c : Prop} [Decidable c] {A B : Prop} (hc : ¬ c) (h : B) : if c then A else B := by
  rw [if_neg hc]
  exact h
theorem if_pos_of {c : Prop} [Decidable c] {A B : Prop} (hc : c) (h : A) : if c then A else B := by
  rw [if_pos hc]
  exact h
section
variable {P : Program} {w : World} {K : PySem.W.Frag} {mg : Str → Option Value} {base : Heap}
theorem scIsL : FnScope ["thing", "sign", "one", "other"] ["thing"] (defScope sIsL) := ⟨rfl, rfl, rfl, by decide +kernel, rfl, by decide +kernel, by decide +kernel⟩
theorem ok_isL {f : Addr} {fd : FuncData} (F : L2.Fun K "is_letters" "is_letters" sIsL f fd) (B : Blt mg) : FnOk P w K mg base CX0 2 f fd ["thing"] (spIsL K) := by
  refine F.ok scIsL (fun vs H Q E h => ?_) (fun cdv A outer s H vs Q E hr h => ⟨_,
    pss_cons (ps_if (pw_or (pt_not (pt_truth (pe_callB call_isi (by rfl) B.isi (by decide +kernel) (pa_cons (pv 0) (pa_cons (pe_bltn (u := .type "str") (v := .ty "str") (by rfl) B.str (by decide +kernel) rfl) pa_nil))) (by intro _; rfl)))
      (pw_or1 (pt_not (pt_chain op_le op_le pe_int (pe_callB call_len_str (by rfl) B.len PySem.boot_len (pa_cons (pv 0) pa_nil)) (pe_glob (v := .int 4) (by rfl) B.mostL.choose_spec ⟨_, rfl⟩))))).pt (pss_one (ps_ret pe_bl)) pss_nil)
    (pss_one (ps_ret (pe_and
      (pe_callB (cr_all rfl) (by rfl) B.all (by decide +kernel) (pa_cons (pe_lc (own := [("sign", 1)]) (g := gName 1) (tt := tYes) rfl scIsL.nd (pi_str (pv 0)) (blkOk_by (N := ["thing", "sign", "one", "other"]) (sc := defScope sIsL) (by decide +kernel)) (fun _ _ _ _ _ => pg_name (i := 1) scIsL.nd rfl (Or.inl rfl)) (fun _ _ _ _ _ => pts_nil)
        (fun _ _ _ _ _ => pe_cmpR op_inS (pv 1) (pe_glob (v := .str smallS) (by rfl) B.small.choose_spec ⟨_, rfl⟩) rfl)) pa_nil))
      (pe_one (pe_callB (cr_all rfl) (by rfl) B.all (by decide +kernel) (pa_cons (pe_lc (own := [("one", 2), ("other", 3)]) (g := gTup K 2 (gCons (gName 2) (gCons (gName 3) gNil))) (tt := tYes) rfl scIsL.nd (pi_zipS (by rfl) B.zip (pa_cons (pv 0) (pa_cons (pe_slice sl_str (pv 0) (po_some pe_int) po_none) pa_nil))) (blkOk_by (N := ["thing", "sign", "one", "other"]) (sc := defScope sIsL) (by decide +kernel)) (fun _ _ _ _ _ => pg_tup rfl (pgs_cons (pg_name (i := 2) scIsL.nd rfl (Or.inl rfl)) (pgs_cons (pg_name (i := 3) scIsL.nd rfl (Or.inl rfl)) pgs_nil))) (fun _ _ _ _ _ => pts_nil)
        (fun _ _ _ _ _ => pe_cmpR op_lt_str (pv 2) (pv 3) rfl)) pa_nil)))))), ?_⟩)
  · obtain ⟨x, rfl, _⟩ := h
    rfl
  · obtain ⟨x, rfl, h⟩ := h
    rcases h with ⟨z, rfl, hz, q⟩ | ⟨⟨t, ty, hk⟩, q⟩
    · refine ⟨_, rfl, .str z, .ty "str", .type "str", .type "str", true, rfl, .ty "str", .base (.str z), kit_ty (by decide +kernel), true, rfl, ?_⟩
      refine if_neg_of (by decide) ?_
      refine ⟨_, rfl, z, rfl, hz, _, _, rfl, rfl, decide ((1 : Int) ≤ z.length), rfl, ?_⟩
      by_cases c1 : (1 : Int) ≤ z.length
      · refine if_pos_of (decide_eq_true c1) ⟨_, _, rfl, rfl, decide ((z.length : Int) ≤ 4), rfl, ?_⟩
        by_cases c2 : (z.length : Int) ≤ 4
        · refine if_neg_of (by rw [decide_eq_true c2]; decide) ?_
          refine ⟨_, rfl, z, rfl, fun D nD => comp (xs := signsV z) (walk_signs z) (fun _ => true) inSm nD (fun _ _ => trivial) (by rw [signs_len]; exact hz) (fun x H k _ g hk => hk H (Grows.refl H)) (fun x H Q hx _ g hq => ?_) (fun H2 g2 hD => ?_)⟩
          · obtain ⟨c, hc, rfl⟩ := signs_mem hx
            exact ⟨_, rfl, c, smallS, rfl, rfl, hq _ (Grows.refl _)⟩
          · rw [filter_yes] at hD
            refine ⟨D, z.cps.toList.map fun c => decide (c ∈ smallS.cps.toList), rfl, .inl (.inl (hD.trans ?_)), _, rfl, ?_⟩
            · unfold signsV
              rw [List.map_map, List.map_map]
              rfl
            · have e1 : (z.cps.toList.map fun c => decide (c ∈ smallS.cps.toList)).all id = z.cps.toList.all fun c => decide (c ∈ smallS.cps.toList) := by rw [List.all_map]; rfl
              rw [e1]
              have el : decide (1 ≤ z.length ∧ z.length ≤ 4) = true := decide_eq_true (by omega)
              cases e2 : z.cps.toList.all fun c => decide (c ∈ smallS.cps.toList) with
              | false =>
                refine if_neg_of (by decide) ?_
                have e3 : okLetters z = false := by unfold okLetters; rw [el, e2]; rfl
                rw [e3] at q
                exact q H2 g2
              | true =>
                refine if_pos_of rfl ?_
                refine ⟨_, rfl, _, rfl, 1, rfl, z, rfl, hz, z, _, rfl, fun D2 nD2 => compZ (fun p => V.bl (decide (p.1 < p.2))) nD2 (by decide) hz (fun c d H Q _ _ hq => ?_) fun H3 g3 hD3 => ?_⟩
                · refine ⟨_, rfl, _, rfl, _, _, rfl, rfl, ?_⟩
                  rw [show decide ((⟨#[c]⟩ : Str).cps.toList < (⟨#[d]⟩ : Str).cps.toList) = decide (c < d) from lt_one c d]
                  exact hq H (Grows.refl H)
                · rw [cut1] at hD3
                  refine ⟨D2, (z.cps.toList.zip (z.cps.toList.drop 1)).map fun p => decide (p.1 < p.2), rfl, .inl (.inl (hD3.trans ?_)), ?_⟩
                  · rw [List.map_map]
                    rfl
                  · rw [rises_zip]
                    have e3 : okLetters z = rises z.cps.toList := by unfold okLetters; rw [el, e2, Bool.true_and, Bool.true_and]
                    rw [e3] at q
                    exact q H3 (g2.trans g3)
        · refine if_pos_of (by rw [decide_eq_false c2]; decide) ?_
          have e : okLetters z = false := by
            unfold okLetters
            rw [decide_eq_false (by omega)]
            rfl
          rw [e] at q
          exact q H (Grows.refl H)
      · refine if_neg_of (by rw [decide_eq_false c1]; decide) ⟨false, rfl, if_pos_of (by decide) ?_⟩
        have e : okLetters z = false := by
          unfold okLetters
          rw [decide_eq_false (by omega)]
          rfl
        rw [e] at q
        exact q H (Grows.refl H)
    · refine ⟨_, rfl, x, .ty "str", .type t, .type "str", false, rfl, .ty "str", ty, kit_ty hk, false, rfl, ?_⟩
      exact q
end
end SWL
set_option Elab.async false
set_option linter.all false
set_option maxRecDepth 100000
set_option maxHeartbeats 4000000
namespace SWL
open PySem PySem.Spec PyProof.Rows L2 LamX
abbrev veB : List Value := [.type "ValueError", .type "Exception", .type "BaseException", .type "object"]
/-- an exception class of the text -/
structure ErrC (K : PySem.W.Frag) (mg : Str → Option Value) (x : Str) (C CS : Addr) : Prop where
  gC : mg x = some (.ref C)
  xC : PySem.W.excIn K C veB "ValueError.__new__" = true
  kC : PySem.W.keepIn K (.ref C) = true
  bC : PySem.W.subIn K (.ref C) (.type "BaseException") = some true
  tC : PySem.W.typeIn K (.ref C) = some (.type "type")
  eC : PySem.W.exmOne K (.ref C) (.ref CS) = some true
/-- a def of the text, by its name -/
structure Def (mg : Str → Option Value) (K : PySem.W.Frag) (x : Str) (f : Addr) (fd : FuncData) (ps : List Str) : Prop where
  g : mg x = some (.ref f)
  k : PySem.W.keepIn K (.ref f) = true
  b : L2.Binds K fd ps []
def spNeedL (K : PySem.W.Frag) (CN : Addr) : Sp := fun vs H Q E => ∃ x, vs = [x] ∧ ((∃ z, x = .str z ∧ z.length ≤ sizeLine ∧ ∀ H', Grows H H' → (okLetters z = true → Q .non H') ∧ (okLetters z = false → E (.ref CN) none H')) ∨ (NotStr K H x ∧ E (.ref CN) none H))
def okWord (ls z : Str) (m : Int) : Bool := decide ((z.length : Int) ≤ m) && z.cps.toList.all fun c => decide (c ∈ ls.cps.toList)
def inLs (ls : Str) (v : V) : V := .bl (decide (sign0 v ∈ ls.cps.toList))
def spIsW (K : PySem.W.Frag) : Sp := fun vs H Q _ => ∃ ls x m, vs = [.str ls, x, .int m] ∧ ((∃ z, x = .str z ∧ z.length ≤ sizeLine ∧ ∀ H', Grows H H' → Q (.bl (okWord ls z m)) H') ∨ (NotStr K H x ∧ Q (.bl false) H))
def spNeedW (K : PySem.W.Frag) (CW : Addr) : Sp := fun vs H Q E => ∃ ls x m, vs = [.str ls, x, .int m] ∧ ((∃ z, x = .str z ∧ z.length ≤ sizeLine ∧ ∀ H', Grows H H' → (okWord ls z m = true → Q .non H') ∧ (okWord ls z m = false → E (.ref CW) none H')) ∨ (NotStr K H x ∧ E (.ref CW) none H))
theorem passE0 {P : Program} {w : World} {X : Cx} (hP : X.prog = P) (hw : X.w = w) : Passes (L2.CX P w) X E0 := fun pins σ H s e s' I c => by
  obtain ⟨_, _, _, _, _, _, _, _, _, _, _, _, z⟩ := c
  exact z.elim
theorem pi_or {X : Cx} {tg it : Expr} {w1 w2 : TI} (h1 : PI X tg it w1) (h2 : PI X tg it w2) : PI X tg it (fun σ H R => w1 σ H R ∨ w2 σ H R) :=
  ⟨fun pins s σ H R I h => h.elim (h1.run pins s σ H R I) (h2.run pins s σ H R I)⟩
theorem mem_take_len {α : Type} {l : List α} {n : Nat} : (l.take n).length ≤ l.length := by rw [List.length_take]; omega
/-- a def whose last parameter, of a default, is 20000 -/
structure DefW (mg : Str → Option Value) (K : PySem.W.Frag) (x : Str) (f : Addr) (fd : FuncData) (ps : List Str) : Prop where
  g : mg x = some (.ref f)
  k : PySem.W.keepIn K (.ref f) = true
  b : ∃ ds, Vals [V.int 20000] ds ∧ L2.Binds K fd ps ds
theorem tyx_grows {K : PySem.W.Frag} {H H' : Hp} (g : Grows H H') {x : V} {t : Value} (h : TyX K H x t) : TyX K H' x t := by
  cases h with
  | base b =>
    cases b with
    | non => exact .base .non
    | bl y => exact .base (.bl y)
    | int i => exact .base (.int i)
    | str z => exact .base (.str z)
    | flt z => exact .base (.flt z)
    | lst e => exact .base (.lst (g _ _ e))
    | frz e => exact .base (.frz (g _ _ e))
    | tup e => exact .base (.tup (g _ _ e))
    | dK e => exact .base (.dK (g _ _ e))
    | dT e => exact .base (.dT (g _ _ e))
    | ins e cl ha hn ht hm => exact .base (.ins (g _ _ e) cl ha hn ht hm)
  | byt b => exact .byt b
  | set e => exact .set (g _ _ e)
  | kList e c => exact .kList e c
  | kTuple e c => exact .kTuple e c
  | kDict e c => exact .kDict e c
  | fTuple e => exact .fTuple (g _ _ e)
  | fDict e => exact .fDict (g _ _ e)
theorem NotStr.grows {K : PySem.W.Frag} {H H' : Hp} (g : Grows H H') {x : V} (h : NotStr K H x) : NotStr K H' x := by
  obtain ⟨t, h1, h2⟩ := h
  exact ⟨t, tyx_grows g h1, h2⟩
theorem ty_list {K : PySem.W.Frag} {H : Hp} {a : Addr} {xs : List V} (h : SqL K H a xs) : TyX K H (.ref a) (.type "list") := by
  rcases h with (h | ⟨o, h⟩) | ⟨o, its, n, h1, h2, _⟩
  · exact .base (.lst h)
  · exact .base (.frz h)
  · exact .kList h1 h2
theorem ty_tuple {K : PySem.W.Frag} {H : Hp} {a : Addr} {xs : List V} (h : SqT K H a xs) : TyX K H (.ref a) (.type "tuple") := by
  rcases h with (h | ⟨o, h⟩) | ⟨o, its, n, h1, h2, _⟩
  · exact .base (.tup h)
  · exact .fTuple h
  · exact .kTuple h1 h2
theorem ty_sq {K : PySem.W.Frag} {H : Hp} {a : Addr} {xs : List V} (h : Sq K H a xs) : ∃ t : String, TyX K H (.ref a) (.type t) ∧ PySem.W.kitAny K (.type t) [.type "list", .type "tuple"] = some true := by
  rcases h with h | h
  · exact ⟨"list", ty_list h, kitAny_cons (b := true) (kit_ty (by decide +kernel)) (fun z => by cases z) fun _ => rfl⟩
  · exact ⟨"tuple", ty_tuple h, kitAny_cons (b := false) (kit_ty (by decide +kernel)) (fun _ => kitAny_cons (b := true) (kit_ty (by decide +kernel)) (fun z => by cases z) fun _ => rfl) fun z => by cases z⟩
def NotSeq (K : PySem.W.Frag) (H : Hp) (x : V) : Prop := ∃ t : String, TyX K H x (.type t) ∧ kitB t "list" = some false ∧ kitB t "tuple" = some false
theorem NotSeq.grows {K : PySem.W.Frag} {H H' : Hp} (g : Grows H H') {x : V} (h : NotSeq K H x) : NotSeq K H' x := by
  obtain ⟨t, h1, h2⟩ := h
  exact ⟨t, tyx_grows g h1, h2⟩
theorem NotSeq.kit {K : PySem.W.Frag} {t : String} (h1 : kitB t "list" = some false) (h2 : kitB t "tuple" = some false) : PySem.W.kitAny K (.type t) [.type "list", .type "tuple"] = some false :=
  kitAny_cons (b := false) (kit_ty h1) (fun _ => kitAny_cons (b := false) (kit_ty h2) (fun _ => kitAny_nil) fun z => by cases z) fun z => by cases z
section
variable {P : Program} {w : World} {K : PySem.W.Frag} {mg : Str → Option Value} {base : Heap}
theorem scNeedL : FnScope ["thing"] ["thing"] (defScope sNeedL) := ⟨rfl, rfl, rfl, by decide +kernel, rfl, by decide +kernel, by decide +kernel⟩
theorem ok_needL {f f1 CN CS : Addr} {fd fd1 : FuncData} (F : L2.Fun K "need_letters" "need_letters" sNeedL f fd) (G : FnOk P w K mg base CX0 2 f1 fd1 ["thing"] (spIsL K)) (D : Def mg K "is_letters" f1 fd1 ["thing"]) (EN : ErrC K mg "NoLetters" CN CS) :
    FnOk P w K mg base (L2.CX P w) 3 f fd ["thing"] (spNeedL K CN) := by
  refine F.okX scNeedL (fun vs H Q E h => ?_) (fun cdv A outer s H vs Q E hr h => ⟨_,
    pss_one (ps_if (pt_not (pt_truth (pe_call G hr (by rfl) D.g D.k D.b .nil pass0 (pa_cons (pv 0) pa_nil)) (by intro _; rfl)))
      (pss_one (ps_raise rfl (takes_of rfl rfl rfl rfl) (pmk_own PySem.F.excBase_ValueError EN.xC EN.gC EN.kC (raises_own EN.bC EN.tC) rfl))) pss_nil), ?_⟩)
  · obtain ⟨x, rfl, _⟩ := h
    rfl
  · obtain ⟨x, rfl, h⟩ := h
    refine ⟨_, rfl, x, rfl, ?_⟩
    rcases h with ⟨z, rfl, hz, q⟩ | ⟨n, q⟩
    · refine .inl ⟨z, rfl, hz, fun H' g => ?_⟩
      obtain ⟨q1, q2⟩ := q H' g
      cases e : okLetters z with
      | true => exact ⟨true, rfl, if_neg_of (by decide) (q1 e)⟩
      | false => exact ⟨false, rfl, if_pos_of (by decide) (q2 e)⟩
    · exact .inr ⟨n, false, rfl, if_pos_of (by decide) q⟩
theorem scIsW : FnScope ["letters", "thing", "most", "sign"] ["letters", "thing", "most"] (defScope sIsW) := ⟨rfl, rfl, rfl, by decide +kernel, rfl, by decide +kernel, by decide +kernel⟩
theorem ok_isW {f : Addr} {fd : FuncData} (F : L2.Fun K "is_word_to" "is_word_to" sIsW f fd) (B : Blt mg) : FnOk P w K mg base CX0 2 f fd ["letters", "thing", "most"] (spIsW K) := by
  refine F.ok scIsW (fun vs H Q E h => ?_) (fun cdv A outer s H vs Q E hr h => ⟨_,
    pss_one (ps_ret (pe_and (pe_callB call_isi (by rfl) B.isi (by decide +kernel) (pa_cons (pv 1) (pa_cons (pe_bltn (u := .type "str") (v := .ty "str") (by rfl) B.str (by decide +kernel) rfl) pa_nil)))
      (pe_and (pe_cmpR op_le (pe_callB call_len_str (by rfl) B.len PySem.boot_len (pa_cons (pv 1) pa_nil)) (pv 2) rfl)
      (pe_one (pe_callB (cr_all rfl) (by rfl) B.all (by decide +kernel) (pa_cons (pe_lc (own := [("sign", 3)]) (g := gName 3) (tt := tYes) rfl scIsW.nd (pi_str (pv 1)) (blkOk_by (N := ["letters", "thing", "most", "sign"]) (sc := defScope sIsW) (by decide +kernel)) (fun _ _ _ _ _ => pg_name (i := 3) scIsW.nd rfl (Or.inl rfl)) (fun _ _ _ _ _ => pts_nil)
        (fun _ _ _ _ _ => pe_cmpR op_inS (pv 3) (pv 0) rfl)) pa_nil)))))), ?_⟩)
  · obtain ⟨ls, x, m, rfl, _⟩ := h
    rfl
  · obtain ⟨ls, x, m, rfl, h⟩ := h
    rcases h with ⟨z, rfl, hz, q⟩ | ⟨⟨t, ty, hk⟩, q⟩
    · refine ⟨_, rfl, .str z, .ty "str", .type "str", .type "str", true, rfl, .ty "str", .base (.str z), kit_ty (by decide +kernel), true, rfl, if_pos_of rfl ?_⟩
      refine ⟨_, rfl, z, rfl, hz, _, rfl, _, _, rfl, rfl, decide ((z.length : Int) ≤ m), rfl, ?_⟩
      by_cases c1 : (z.length : Int) ≤ m
      · refine if_pos_of (decide_eq_true c1) ?_
        refine ⟨_, rfl, z, rfl, fun D nD => comp (xs := signsV z) (walk_signs z) (fun _ => true) (inLs ls) nD (fun _ _ => trivial) (by rw [signs_len]; exact hz) (fun x H k _ g hk => hk H (Grows.refl H)) (fun x H Q hx _ g hq => ?_) (fun H2 g2 hD => ?_)⟩
        · obtain ⟨c, hc, rfl⟩ := signs_mem hx
          exact ⟨_, rfl, _, rfl, c, ls, rfl, rfl, hq _ (Grows.refl _)⟩
        · rw [filter_yes] at hD
          refine ⟨D, z.cps.toList.map fun c => decide (c ∈ ls.cps.toList), rfl, .inl (.inl (hD.trans ?_)), ?_⟩
          · unfold signsV
            rw [List.map_map, List.map_map]
            rfl
          · have e1 : (z.cps.toList.map fun c => decide (c ∈ ls.cps.toList)).all id = okWord ls z m := by
              unfold okWord
              rw [decide_eq_true c1, List.all_map, Bool.true_and]
              rfl
            rw [e1]
            exact q H2 g2
      · refine if_neg_of (by rw [decide_eq_false c1]; decide) ?_
        have e : okWord ls z m = false := by
          unfold okWord
          rw [decide_eq_false c1]
          rfl
        rw [e] at q
        exact q H (Grows.refl H)
    · exact ⟨_, rfl, x, .ty "str", .type t, .type "str", false, rfl, .ty "str", ty, kit_ty hk, false, rfl, if_neg_of (by decide) q⟩
theorem scNeedW : FnScope ["letters", "thing", "most"] ["letters", "thing", "most"] (defScope sNeedW) := ⟨rfl, rfl, rfl, by decide +kernel, rfl, by decide +kernel, by decide +kernel⟩
theorem ok_needW {f f1 CW CS : Addr} {fd fd1 : FuncData} {kws : List (Str × V)} (F : FunD K "need_word" "need_word" (defArgs sNeedW) (defBody sNeedW) (defScope sNeedW) [] kws f fd) (G : FnOk P w K mg base CX0 2 f1 fd1 ["letters", "thing", "most"] (spIsW K)) (D : Def mg K "is_word_to" f1 fd1 ["letters", "thing", "most"]) (EN : ErrC K mg "NoWord" CW CS) :
    FnOk P w K mg base (L2.CX P w) 3 f fd ["letters", "thing", "most"] (spNeedW K CW) := by
  refine F.ok (CX := L2.CX P w) scNeedW (fun vs H Q E h => ?_) (fun cdv A outer s H vs Q E hr h => ⟨_,
    pss_one (ps_if (pt_not (pt_truth (pe_call G hr (by rfl) D.g D.k D.b .nil pass0 (pa_cons (pv 0) (pa_cons (pv 1) (pa_cons (pv 2) pa_nil)))) (by intro _; rfl)))
      (pss_one (ps_raise rfl (takes_of rfl rfl rfl rfl) (pmk_own PySem.F.excBase_ValueError EN.xC EN.gC EN.kC (raises_own EN.bC EN.tC) rfl))) pss_nil), ?_⟩)
  · obtain ⟨ls, x, m, rfl, _⟩ := h
    rfl
  · obtain ⟨ls, x, m, rfl, h⟩ := h
    refine ⟨_, rfl, _, rfl, _, rfl, ls, x, m, rfl, ?_⟩
    rcases h with ⟨z, rfl, hz, q⟩ | ⟨n, q⟩
    · refine .inl ⟨z, rfl, hz, fun H' g => ?_⟩
      obtain ⟨q1, q2⟩ := q H' g
      cases e : okWord ls z m with
      | true => exact ⟨true, rfl, if_neg_of (by decide) (q1 e)⟩
      | false => exact ⟨false, rfl, if_pos_of (by decide) (q2 e)⟩
    · exact .inr ⟨n, false, rfl, if_pos_of (by decide) q⟩
end
end SWL
set_option Elab.async false
set_option linter.all false
set_option maxRecDepth 100000
set_option maxHeartbeats 4000000
namespace SWL
open PySem PySem.Spec PyProof.Rows L2 LamX
def stD (g c : Addr) (r t : Int) : List (Key × V) := [(.inr "great", .ref g), (.inr "cells", .ref c), (.inr "rest", .int r), (.inr "turn", .int t)]
theorem st_great (g c : Addr) (r t : Int) : valV (stD g c r t) (.inr "great") = some (.ref g) := rfl
theorem st_cells (g c : Addr) (r t : Int) : valV (stD g c r t) (.inr "cells") = some (.ref c) := rfl
theorem st_rest (g c : Addr) (r t : Int) : valV (stD g c r t) (.inr "rest") = some (.int r) := rfl
theorem st_turn (g c : Addr) (r t : Int) : valV (stD g c r t) (.inr "turn") = some (.int t) := rfl
theorem st_putR (g c : Addr) (r t r' : Int) : putK (stD g c r t) (.inr "rest") (.int r') = stD g c r' t := rfl
theorem st_putT (g c : Addr) (r t t' : Int) : putK (stD g c r t) (.inr "turn") (.int t') = stD g c r t' := rfl
theorem st_new (g c : Addr) : mergeK [] (stD g c 0 0) = stD g c 0 0 := rfl
/-- the state of the draws: at most n blends so far -/
structure SAt (H : Hp) (a g c : Addr) (cs : List Int) (n : Nat) : Prop where
  ex : ∃ (gs : List Int) (r t : Int), H a = some (.dK (stD g c r t)) ∧ H g = some (.lst (gs.map V.int)) ∧ H c = some (.lst (cs.map V.int)) ∧ g ≠ c ∧ (∀ z ∈ gs, 0 ≤ z) ∧ 0 ≤ r ∧ 0 ≤ t ∧ t ≤ n
/-- all stays but the state and its great cells -/
def But (H H' : Hp) (a g : Addr) : Prop := ∀ b o, H b = some o → b ≠ a → b ≠ g → H' b = some o
theorem But.refl (H : Hp) (a g : Addr) : But H H a g := fun _ _ h _ _ => h
theorem But.trans {H H1 H2 : Hp} {a g : Addr} (x : But H H1 a g) (y : But H1 H2 a g) : But H H2 a g := fun b o h h1 h2 => y b o (x b o h h1 h2) h1 h2
theorem But.of {H H' : Hp} {a g : Addr} (x : Grows H H') : But H H' a g := fun b o h _ _ => x b o h
theorem SAt.grows {H H' : Hp} {a g c : Addr} {cs : List Int} {n : Nat} (s : SAt H a g c cs n) (x : Grows H H') : SAt H' a g c cs n := by
  obtain ⟨gs, r, t, h1, h2, h3, h4⟩ := s.ex
  exact ⟨gs, r, t, x _ _ h1, x _ _ h2, x _ _ h3, h4⟩
theorem SAt.mono {H : Hp} {a g c : Addr} {cs : List Int} {n m : Nat} (s : SAt H a g c cs n) (h : n ≤ m) : SAt H a g c cs m := by
  obtain ⟨gs, r, t, h1, h2, h3, h4, h5, h6, h7, h8⟩ := s.ex
  exact ⟨gs, r, t, h1, h2, h3, h4, h5, h6, h7, by omega⟩
def spBegun (K : PySem.W.Frag) : Sp := fun vs H Q _ => ∃ (a : Addr) (ns : List Int), vs = [.ref a] ∧ SqL K H a (ns.map V.int) ∧ ns.length ≤ sizeLine ∧ ∀ H' p g c cs, Grows H H' → SAt H' p g c cs 0 → H p = none → H g = none → Q (.ref p) H'
def spMixed : Sp := fun vs H Q _ => ∃ (a g c : Addr) (cs : List Int) (n : Nat), vs = [.ref a] ∧ SAt H a g c cs n ∧ n ≤ 1000000 ∧ ∀ H' i, 0 ≤ i → SAt H' a g c cs (n + 1) → (∀ b o, H b = some o → b ≠ a → H' b = some o) → Q (.int i) H'
def spDraw : Sp := fun vs H Q _ => ∃ (a g c : Addr) (cs : List Int) (n : Nat) (m : Int), vs = [.ref a, .int m] ∧ SAt H a g c cs n ∧ n ≤ 1000000 ∧ 1 ≤ m ∧ m ≤ 1000000 ∧ ∀ H' i, 0 ≤ i → i < m → SAt H' a g c cs (n + 1) → But H H' a g → Q (.int i) H'
section
variable {P : Program} {w : World} {K : PySem.W.Frag} {mg : Str → Option Value} {base : Heap}
theorem scMixed : FnScope ["state", "turn", "found", "prime", "blend", "cell"] ["state"] (defScope sMixed) := ⟨rfl, rfl, rfl, by decide +kernel, rfl, by decide +kernel, by decide +kernel⟩
theorem ok_mixed {f : Addr} {fd : FuncData} (F : L2.Fun K "_law_mixed" "_law_mixed" sMixed f fd) (B : Blt mg) : FnOk P w K mg base CX0 1 f fd ["state"] spMixed := by
  refine F.ok scMixed (fun vs H Q E h => ?_) (fun cdv A outer s H vs Q E hr h => ⟨_,
    pss_cons (ps_par (i := 1) (j := 2) rfl scMixed.nd rfl rfl (by decide) rfl rfl (pa_cons (pe_op op_add (pe_dget (hu_of hr) (pv 0) pe_str (fun _ _ => rfl)) pe_int) (pa_cons pe_int pa_nil)) (by rfl))
    (pss_cons (ps_dput (hu_of hr) (pv 0) pe_str (pv 1) rfl)
    (pss_cons (ps_for PassesOwn.never rfl (pi_list (pe_lst (pa_cons pe_int (pa_cons pe_int (pa_cons pe_int (pa_cons pe_int pa_nil)))))) (pg_name (i := 3) scMixed.nd rfl (Or.inl rfl))
      (pss_cons (ps_set (i := 4) scMixed.nd rfl (Or.inl rfl) (pe_op op_add (pe_op op_mul pe_int (pv 1)) (pe_op op_fdivN (pv 3) pe_int)))
      (pss_cons (ps_for PassesOwn.never rfl (pi_list (pe_dget (hu_of hr) (pv 0) pe_str (fun _ _ => rfl))) (pg_name (i := 5) scMixed.nd rfl (Or.inl rfl))
        (pss_one (ps_set (i := 4) scMixed.nd rfl (Or.inl rfl) (pe_op op_modN (pe_callTy call_int1 (by rfl) B.int (by decide +kernel) (pa_cons (pe_op op_add (pe_op op_add (pe_op op_mul (pv 4) pe_int) (pv 5)) (pv 1)) pa_nil)) (pv 3)))))
      (pss_one (ps_set (i := 2) scMixed.nd rfl (Or.inl rfl) (pe_op op_add (pe_op op_mul (pv 2) pe_int) (pe_op op_modN (pe_callTy call_int1 (by rfl) B.int (by decide +kernel) (pa_cons (pe_op op_pow (pv 4) pe_int) pa_nil)) (pv 3))))))))
    (pss_one (ps_ret (pv 2))))), ?_⟩)
  · obtain ⟨a, g, c, cs, n, rfl, _⟩ := h
    rfl
  · obtain ⟨a, g, c, cs, n, rfl, hs, hn, q⟩ := h
    obtain ⟨gs, r, t, h1, h2, h3, h4, h5, h6, h7, h8⟩ := hs.ex
    have ag : g ≠ a := ne_of h2 h1 (by intro z; cases z)
    have ac : c ≠ a := ne_of h3 h1 (by intro z; cases z)
    refine ⟨_, rfl, a, _, rfl, (st_turn g c r t) ▸ DGet.k (k := .inr "turn") h1, t, 1, rfl, rfl, _, _, rfl, ?_⟩
    refine ⟨_, rfl, _, rfl, a, _, rfl, DPut.k (k := .inr "turn") h1 (by show 4 < sizeLine; decide), ?_⟩
    rw [st_putT]
    generalize hH1 : upd H a (.dK (stD g c r (t + 1))) = H1
    have k1 : H1 a = some (.dK (stD g c r (t + 1))) := by rw [← hH1, upd_same]
    have o1 : ∀ b o, H b = some o → b ≠ a → H1 b = some o := fun b o e hb => by rw [← hH1, upd_ne hb]; exact e
    have s1 : SAt H1 a g c cs (n + 1) := ⟨gs, r, t + 1, k1, o1 _ _ h2 ag, o1 _ _ h3 ac, h4, h5, h6, by omega, by omega⟩
    refine ⟨by show 4 ≤ sizeLine; decide, fun L nL => ?_⟩
    have gL : Grows H1 (upd H1 L (.lst [.int 2147483549, .int 2147483543, .int 2147483497, .int 2147483489])) := Grows.new nL
    have kL : upd H1 L (.lst [.int 2147483549, .int 2147483543, .int 2147483497, .int 2147483489]) L = some (.lst ([2147483549, 2147483543, 2147483497, 2147483489].map V.int)) := by rw [upd_same]; rfl
    generalize upd H1 L (.lst [.int 2147483549, .int 2147483543, .int 2147483497, .int 2147483489]) = H2 at gL kL ⊢
    have s2 := s1.grows gL
    have c2 := gL _ _ (o1 _ _ h3 ac)
    have a2 := gL _ _ k1
    refine ⟨L, rfl, ⟨_, .inl (.inl kL)⟩, for_list (K := K) (a := L) (xs := [2147483549, 2147483543, 2147483497, 2147483489].map V.int) (fun i σ H' => H' = H2 ∧ ∃ (fo : Int) (v1 v2 v3 : Option V), 0 ≤ fo ∧ σ = [some (.ref a), some (.int (t + 1)), some (.int fo), v1, v2, v3])
      ⟨rfl, 0, none, none, none, Int.le_refl _, rfl⟩ (fun i σ H' _ ⟨e, _⟩ => by rw [e]; exact .inl (.inl kL)) ?_ ?_⟩
    · rintro i x σ H' hi ⟨rfl, fo, v1, v2, v3, hfo, rfl⟩
      obtain ⟨z, hz, rfl, hz1, hz2⟩ : ∃ z, [(2147483549 : Int), 2147483543, 2147483497, 2147483489][i]? = some z ∧ x = .int z ∧ 2147483489 ≤ z ∧ z ≤ 2147483549 := by
        rw [List.getElem?_map] at hi
        cases e : [(2147483549 : Int), 2147483543, 2147483497, 2147483489][i]? with
        | none => rw [e] at hi; cases hi
        | some z =>
          rw [e] at hi
          refine ⟨z, rfl, (Option.some.inj hi).symm, ?_⟩
          have hm := List.mem_of_getElem? e
          simp only [List.mem_cons, List.not_mem_nil, or_false] at hm
          omega
      have hdiv : (0 : Int) ≤ z.fdiv 41 ∧ z.fdiv 41 ≤ 2147483549 := by
        rw [Int.fdiv_eq_ediv_of_nonneg _ (by decide : (0 : Int) ≤ 41)]
        omega
      refine ⟨_, rfl, _, _, rfl, rfl, .inl ⟨by decide, by decide⟩, _, rfl, z, 41, rfl, rfl, ⟨by decide, by decide⟩, _, _, rfl, rfl, ?_⟩
      have hz0 : (0 : Int) < z := by omega
      have md : ∀ y : Int, 0 ≤ y.fmod z ∧ y.fmod z < z := fun y => by
        rw [Int.fmod_eq_emod_of_nonneg _ (Int.le_of_lt hz0)]
        exact ⟨Int.emod_nonneg _ (by omega), Int.emod_lt_of_pos _ hz0⟩
      refine ⟨_, rfl, a, _, rfl, (st_cells g c r (t + 1)) ▸ DGet.k (k := .inr "cells") a2, c, rfl, ⟨_, .inl (.inl c2)⟩, for_list (K := K) (a := c) (xs := cs.map V.int) (fun i σ H'' => H'' = H' ∧ ∃ (bl : Int) (v3 : Option V), 0 ≤ bl ∧ bl < 2 ^ 60 ∧ σ = [some (.ref a), some (.int (t + 1)), some (.int fo), some (.int z), some (.int bl), v3])
        ⟨rfl, 69621 * (t + 1) + z.fdiv 41, v3, by omega, by omega, rfl⟩ (fun i σ H'' _ ⟨e, _⟩ => by rw [e]; exact .inl (.inl c2)) ?_ ?_⟩
      · rintro i x σ H'' hi ⟨rfl, bl, v3, hb1, hb2, rfl⟩
        obtain ⟨y, rfl⟩ : ∃ y, x = .int y := by
          rw [List.getElem?_map] at hi
          cases e : cs[i]? with
          | none => rw [e] at hi; cases hi
          | some y => rw [e] at hi; exact ⟨y, (Option.some.inj hi).symm⟩
        obtain ⟨m1, m2⟩ := md (bl * 48271 + y + (t + 1))
        refine ⟨_, rfl, _, _, rfl, rfl, .inr ⟨by decide, by decide⟩, _, rfl, _, _, rfl, rfl, _, rfl, _, _, rfl, rfl, .inl ⟨_, rfl, _, rfl, _, _, rfl, rfl, by omega, ?_⟩⟩
        exact ⟨rfl, _, some (.int y), m1, by omega, rfl⟩
      · rintro σ H'' ⟨rfl, bl, v3, hb1, hb2, rfl⟩
        obtain ⟨m1, m2⟩ := md (bl ^ 5)
        refine ⟨_, rfl, _, _, rfl, rfl, .inr ⟨by decide, by decide⟩, _, rfl, _, _, rfl, rfl, ⟨by decide, by decide, by omega⟩, .inl ⟨_, rfl, _, rfl, _, _, rfl, rfl, by omega, _, _, rfl, rfl, ?_⟩⟩
        exact ⟨rfl, _, some (.int z), some (.int bl), v3, by
          have : (0 : Int) ≤ fo * 2147483659 := Int.mul_nonneg hfo (by decide)
          exact Int.add_nonneg this m1, rfl⟩
    · rintro σ H' ⟨rfl, fo, v1, v2, v3, hfo, rfl⟩
      exact ⟨_, rfl, q H' fo hfo s2 fun b o e hb => gL _ _ (o1 b o e hb)⟩
theorem scDraw : FnScope ["state", "room", "found"] ["state", "room"] (defScope sDraw) := ⟨rfl, rfl, rfl, by decide +kernel, rfl, by decide +kernel, by decide +kernel⟩
theorem dp_ints {H : Hp} : ∀ {l : List Int}, DpAll K H (l.map V.int) (l.map PyData.int)
  | [] => .nil
  | x :: l => .cons (.int x) dp_ints
theorem shaped_ints (l : List Int) : SeqAt.shaped (.list (l.map PyData.int)) = true := by
  have e : ∀ l : List Int, PyData.canLayAll0 (l.map PyData.int) = true := fun l => by
    induction l with
    | nil => rfl
    | cons x l ih => simp [PyData.canLayAll0, PyData.canLay0, ih]
  have d : PyData.depth (.list (l.map PyData.int)) ≤ 64 := by
    rw [PyData.depth, PySem.W.depth_ints]
    decide
  unfold SeqAt.shaped
  rw [Bool.and_eq_true]
  exact ⟨by rw [PyData.canLay0]; exact e l, decide_eq_true d⟩
theorem eqv_nil (l : List Int) : PyData.eqv (.list (l.map PyData.int)) (.list []) = decide (l = []) := by
  cases l <;> rfl
def rInt1 : List V → Hp → VK → Prop := fun xs H Q => (∃ i, xs = [.int i] ∧ Q (.int i) H) ∨ ∃ k, xs = [.bl k] ∧ Q (.int (if k then 1 else 0)) H
/-- found = int(state['rest']) % room; state['rest'] = state['rest'] // room; return found -/
def t_fin : TS := tSeq (tAsg (tOp (rI (fun _ j => j ≠ 0) fun i j => .int (i.fmod j)) (tCB rInt1 (tCons (tDGet (tVar 0) (tC (.str "rest"))) tNil)) (tVar 1)) (gName 2))
  (tSeq (sDPut (tVar 0) (tC (.str "rest")) (tOp (rI CDivN fun i j => .int (i.fdiv j)) (tDGet (tVar 0) (tC (.str "rest"))) (tVar 1))) (tRet (tVar 2)))
theorem draw_fin {H H1 : Hp} {a g c : Addr} {cs gs : List Int} {n : Nat} {m r t : Int} {Q : VK} (hm1 : 1 ≤ m) (hm2 : m ≤ 1000000) (h4 : g ≠ c) (ag : g ≠ a) (ac : c ≠ a) (q : ∀ H' i, 0 ≤ i → i < m → SAt H' a g c cs (n + 1) → But H H' a g → Q (.int i) H')
    (hb : But H H1 a g) (k1 : H1 a = some (.dK (stD g c r t))) (k2 : H1 g = some (.lst (gs.map V.int))) (k3 : H1 c = some (.lst (cs.map V.int))) (k5 : ∀ z ∈ gs, 0 ≤ z) (k6 : 0 ≤ r) (k7 : 0 ≤ t) (k8 : t ≤ ((n + 1 : Nat) : Int)) :
    t_fin { nx := fun _ H' => Q .non H', rt := Q } [some (.ref a), some (.int m), none] H1 := by
  have hm0 : (0 : Int) < m := by omega
  refine ⟨_, rfl, a, _, rfl, (st_rest g c r t) ▸ DGet.k (k := .inr "rest") k1, .inl ⟨_, rfl, _, rfl, _, _, rfl, rfl, by omega, ?_⟩⟩
  refine ⟨_, rfl, a, _, rfl, (st_rest g c r t) ▸ DGet.k (k := .inr "rest") k1, _, rfl, _, _, rfl, rfl, ⟨by omega, by omega⟩, ?_⟩
  refine ⟨_, rfl, a, _, rfl, DPut.k (k := .inr "rest") k1 (by show 4 < sizeLine; decide), ?_⟩
  rw [st_putR]
  have e1 : r.fmod m = r % m := Int.fmod_eq_emod_of_nonneg _ (Int.le_of_lt hm0)
  have e2 : r.fdiv m = r / m := Int.fdiv_eq_ediv_of_nonneg _ (Int.le_of_lt hm0)
  refine ⟨_, rfl, q _ _ (by rw [e1]; exact Int.emod_nonneg _ (by omega)) (by rw [e1]; exact Int.emod_lt_of_pos _ hm0) ⟨gs, r.fdiv m, t, upd_same, by rw [upd_ne ag]; exact k2, by rw [upd_ne ac]; exact k3, h4, k5, by rw [e2]; exact Int.ediv_nonneg k6 (Int.le_of_lt hm0), k7, k8⟩ fun b o e n1 n2 => ?_⟩
  rw [upd_ne n1]
  exact hb b o e n1 n2
theorem ok_draw {f f1 : Addr} {fd fd1 : FuncData} (F : L2.Fun K "_law_draw" "_law_draw" sDraw f fd) (B : Blt mg) (G : FnOk P w K mg base CX0 1 f1 fd1 ["state"] spMixed) (D : Def mg K "_law_mixed" f1 fd1 ["state"]) : FnOk P w K mg base CX0 2 f fd ["state", "room"] spDraw := by
  refine F.ok scDraw (fun vs H Q E h => ?_) (fun cdv A outer s H vs Q E hr h => ⟨_,
    pss_cons (ps_if (pt_cmpR op_eq (pe_dget (hu_of hr) (pv 0) pe_str (fun _ _ => rfl)) pe_int (nomark _))
      (pss_one (ps_dput (hu_of hr) (pv 0) pe_str (pe_ifExp (pt_cmpR (op_neD (by have := hr.un; show (A.deeper _).units + 64 < _; omega)) (pe_dget (hu_of hr) (pv 0) pe_str (fun _ _ => rfl)) (pe_lst pa_nil) (nomark _))
        (pe_bm PySem.F.plainAttrs_list PySem.F.slot_list_pop PySem.F.type_list_pop mt_popAt (pe_dget (hu_of hr) (pv 0) pe_str (fun _ _ => rfl)) (pa_cons pe_int pa_nil))
        (pe_call G hr (by rfl) D.g D.k D.b .nil pass0 (pa_cons (pv 0) pa_nil))) rfl)) pss_nil)
    (pss_cons (ps_set (i := 2) scDraw.nd rfl (Or.inl rfl) (pe_op op_modN (pe_callTy call_int1 (by rfl) B.int (by decide +kernel) (pa_cons (pe_dget (hu_of hr) (pv 0) pe_str (fun _ _ => rfl)) pa_nil)) (pv 1)))
    (pss_cons (ps_dput (hu_of hr) (pv 0) pe_str (pe_op op_fdivN (pe_dget (hu_of hr) (pv 0) pe_str (fun _ _ => rfl)) (pv 1)) rfl)
    (pss_one (ps_ret (pv 2))))), ?_⟩)
  · obtain ⟨a, g, c, cs, n, m, rfl, _⟩ := h
    rfl
  · obtain ⟨a, g, c, cs, n, m, rfl, hs, hn, hm1, hm2, q⟩ := h
    obtain ⟨gs, r, t, h1, h2, h3, h4, h5, h6, h7, h8⟩ := hs.ex
    have ag : g ≠ a := ne_of h2 h1 (by intro z; cases z)
    have ac : c ≠ a := ne_of h3 h1 (by intro z; cases z)
    have hm0 : (0 : Int) < m := by omega
    have fin := fun (H1 : Hp) gs r t => draw_fin (H1 := H1) (n := n) (gs := gs) (r := r) (t := t) hm1 hm2 h4 ag ac q
    refine ⟨_, rfl, a, _, rfl, (st_rest g c r t) ▸ DGet.k (k := .inr "rest") h1, rfl, _, rfl, ?_⟩
    by_cases hr0 : r = 0
    · refine if_pos_of (decide_eq_true (congrArg V.int hr0)) ?_
      refine ⟨_, rfl, a, _, rfl, (st_great g c r t) ▸ DGet.k (k := .inr "great") h1, by show 0 ≤ sizeLine; decide, fun p np => ?_⟩
      have gp : Grows H (upd H p (.lst [])) := Grows.new np
      have kp : upd H p (.lst []) p = some (.lst []) := upd_same
      generalize upd H p (.lst []) = H2 at gp kp ⊢
      refine ⟨.list (gs.map PyData.int), .list [], .lst (.inl (.inl (gp _ _ h2))) dp_ints, .lst (.inl (.inl kp)) .nil, shaped_ints gs, rfl, _, rfl, ?_⟩
      rw [eqv_nil]
      cases gs with
      | nil =>
        refine if_neg_of (by decide) ?_
        refine ⟨_, rfl, a, g, c, cs, n, rfl, hs.grows gp, hn, fun H3 i hi s3 hk3 => ?_⟩
        obtain ⟨gs', r', t', k1, k2, k3, k4, k5, k6, k7, k8⟩ := s3.ex
        refine ⟨_, rfl, a, _, rfl, DPut.k (k := .inr "rest") k1 (by show 4 < sizeLine; decide), ?_⟩
        rw [st_putR]
        refine fin (upd H3 a (.dK (stD g c i t'))) gs' i t' (fun b o e n1 n2 => ?_) upd_same (by rw [upd_ne ag]; exact k2) (by rw [upd_ne ac]; exact k3) k5 hi k7 k8
        rw [upd_ne n1]
        exact hk3 b o (gp b o e) n1
      | cons y gs =>
        refine if_pos_of (by rw [decide_eq_false (by simp)]; decide) ?_
        refine ⟨_, rfl, a, .ref g, rfl, (st_great g c r t) ▸ DGet.k (k := .inr "great") (gp _ _ h1), Or.inl ⟨rfl, _, .inl (.inl (gp _ _ h2))⟩, g, _, 0, 0, .int y, rfl, rfl, gp _ _ h2, by decide, by decide, by simp [seqIndex?], rfl, ?_⟩
        refine ⟨_, rfl, a, _, rfl, DPut.k (k := .inr "rest") (show upd H2 g _ a = _ from (upd_ne ag.symm).trans (gp _ _ h1)) (by show 4 < sizeLine; decide), ?_⟩
        rw [st_putR]
        refine fin (upd (upd H2 g (.lst ((gs.map V.int)))) a (.dK (stD g c y t))) gs y t (fun b o e n1 n2 => ?_) upd_same (by rw [upd_ne ag, upd_same]) (by rw [upd_ne ac, upd_ne h4.symm]; exact gp _ _ h3) (fun z hz => h5 z (List.mem_cons_of_mem _ hz)) (h5 y List.mem_cons_self) h7 (by omega)
        rw [upd_ne n1, upd_ne n2]
        exact gp b o e
    · refine if_neg_of (by rw [decide_eq_false (fun z => hr0 (V.int.inj z))]; decide) ?_
      exact fin H gs r t (But.refl H a g) h1 h2 h3 h5 h6 h7 (by omega)
def spPick : Sp := fun vs H Q _ => ∃ (a g c l : Addr) (cs : List Int) (n : Nat) (xs : List V), vs = [.ref a, .ref l] ∧ SAt H a g c cs n ∧ n ≤ 1000000 ∧ H l = some (.lst xs) ∧ l ≠ g ∧ xs ≠ [] ∧ xs.length ≤ 1000000 ∧ ∀ H' x, x ∈ xs → SAt H' a g c cs (n + 1) → But H H' a g → Q x H'
def absI : V → Int
  | .int i => if i < 0 then -i else i
  | _ => 0
theorem absI_nn (v : V) : 0 ≤ absI v := by
  cases v <;> (unfold absI; try exact Int.le_refl _)
  split <;> omega
theorem scPick : FnScope ["state", "some"] ["state", "some"] (defScope sPick) := ⟨rfl, rfl, rfl, by decide +kernel, rfl, by decide +kernel, by decide +kernel⟩
theorem ok_pick {f f1 : Addr} {fd fd1 : FuncData} (F : L2.Fun K "_law_pick" "_law_pick" sPick f fd) (B : Blt mg) (G : FnOk P w K mg base CX0 2 f1 fd1 ["state", "room"] spDraw) (D : Def mg K "_law_draw" f1 fd1 ["state", "room"]) : FnOk P w K mg base CX0 3 f fd ["state", "some"] spPick := by
  refine F.ok scPick (fun vs H Q E h => ?_) (fun cdv A outer s H vs Q E hr h => ⟨_,
    pss_one (ps_ret (pe_ix ix_list (pv 1) (pe_call G hr (by rfl) D.g D.k D.b .nil pass0 (pa_cons (pv 0) (pa_cons (pe_callB call_len_seq (by rfl) B.len PySem.boot_len (pa_cons (pv 1) pa_nil)) pa_nil))) (fun _ _ => rfl))), ?_⟩)
  · obtain ⟨a, g, c, l, cs, n, xs, rfl, _⟩ := h
    rfl
  · obtain ⟨a, g, c, l, cs, n, xs, rfl, hs, hn, hl, lg, hne, hlen, q⟩ := h
    have la : l ≠ a := by
      obtain ⟨gs, r, t, h1, _⟩ := hs.ex
      exact ne_of hl h1 (by intro z; cases z)
    have hpos : 0 < xs.length := List.length_pos_iff.mpr hne
    refine ⟨_, rfl, _, rfl, _, rfl, l, xs, rfl, .inl (.inl (.inl hl)), a, g, c, cs, n, _, rfl, hs, hn, by omega, by omega, fun H' i hi hlt s' hb => ?_⟩
    obtain ⟨k, rfl⟩ : ∃ k : Nat, i = k := ⟨i.toNat, by omega⟩
    have hk : k < xs.length := by omega
    exact ⟨l, xs, k, xs[k], rfl, rfl, .inl (.inl (hb l _ hl la lg)), atI_nat (List.getElem?_eq_getElem hk), q H' _ (List.getElem_mem hk) s' hb⟩
theorem scBegun : FnScope ["script", "great", "cell"] ["script"] (defScope sBegun) := ⟨rfl, rfl, rfl, by decide +kernel, rfl, by decide +kernel, by decide +kernel⟩
theorem ok_begun {f : Addr} {fd : FuncData} (F : L2.Fun K "_law_begun" "_law_begun" sBegun f fd) (B : Blt mg) : FnOk P w K mg base CX0 1 f fd ["script"] (spBegun K) := by
  refine F.ok scBegun (fun vs H Q E h => ?_) (fun cdv A outer s H vs Q E hr h => ⟨_,
    pss_cons (ps_setLc (i := 1) (own := [("cell", 2)]) (g := gName 2) rfl scBegun.nd rfl rfl (sw_true rfl rfl rfl (by decide +kernel)) (pi_list (pv 0)) (blkOk_by (N := ["script", "great", "cell"]) (sc := defScope sBegun) (by decide +kernel)) (fun _ _ _ _ _ => pg_name (i := 2) scBegun.nd rfl (Or.inl rfl))
        (fun _ _ _ _ _ => pts_one (pt_cmpR op_ge (pe_callB call_abs (by rfl) B.abs (by decide +kernel) (pa_cons (pv 2) pa_nil)) (pe_op op_pow pe_int pe_int) (nomark _)))
        (fun _ _ _ _ _ => pe_op op_sub (pe_callB call_abs (by rfl) B.abs (by decide +kernel) (pa_cons (pv 2) pa_nil)) (pe_op op_pow pe_int pe_int)))
    (pss_one (ps_ret (pe_disp (pps_cons pe_str (pv 1) (pps_cons pe_str
        (pe_lc (own := [("cell", 2)]) (g := gName 2) (tt := tYes) rfl scBegun.nd (pi_list (pv 0)) (blkOk_by (N := ["script", "great", "cell"]) (sc := defScope sBegun) (by decide +kernel)) (fun _ _ _ _ _ => pg_name (i := 2) scBegun.nd rfl (Or.inl rfl)) (fun _ _ _ _ _ => pts_nil)
          (fun _ _ _ _ _ => pe_callB call_abs (by rfl) B.abs (by decide +kernel) (pa_cons (pv 2) pa_nil)))
        (pps_cons pe_str pe_int (pps_cons pe_str pe_int pps_nil)))) (by rfl) (by rfl) (by simp) (by decide)))), ?_⟩)
  · obtain ⟨a, ns, rfl, _⟩ := h
    rfl
  · obtain ⟨a, ns, rfl, hs, hn, q⟩ := h
    have hlen : (ns.map V.int).length ≤ sizeLine := by rw [List.length_map]; exact hn
    refine ⟨_, rfl, a, rfl, ⟨_, hs⟩, fun g0 ng => comp (xs := ns.map V.int) walk_list (fun v => decide ((10 : Int) ^ (18 : Int).toNat ≤ absI v)) (fun v => .int (absI v - (10 : Int) ^ (18 : Int).toNat)) ng (fun H g => g.l hs) hlen
      (fun x H k hx g hk => ?_) (fun x H Q hx hp g hq => ?_) (fun H1 g1 hg1 => ?_)⟩
    · obtain ⟨z, _, rfl⟩ := List.mem_map.mp hx
      exact ⟨_, rfl, z, rfl, _, _, rfl, rfl, ⟨by decide, by decide, by decide⟩, _, _, rfl, rfl, _, rfl, hk H (Grows.refl H)⟩
    · obtain ⟨z, _, rfl⟩ := List.mem_map.mp hx
      exact ⟨_, rfl, z, rfl, _, _, rfl, rfl, ⟨by decide, by decide, by decide⟩, _, _, rfl, rfl, hq H (Grows.refl H)⟩
    · intro p np
      have np0 : H p = none := by
        cases e : H p with
        | none => rfl
        | some o => rw [g1 _ _ e] at np; cases np
      have gp : Grows H1 (upd H1 p (.dK [])) := Grows.new np
      have kp : upd H1 p (.dK []) p = some (.dK []) := upd_same
      generalize upd H1 p (.dK []) = H2 at gp kp ⊢
      have g2 := g1.trans gp
      refine ⟨_, rfl, ?_⟩
      refine ⟨_, rfl, a, rfl, ⟨_, g2.l hs⟩, fun c0 nc => comp (xs := ns.map V.int) walk_list (fun _ => true) (fun v => .int (absI v)) nc (fun H g => (g2.trans g).l hs) hlen (fun x H k hx g hk => hk H (Grows.refl H)) (fun x H Q hx hp g hq => ?_) (fun H3 g3 hg3 => ?_)⟩
      · obtain ⟨z, _, rfl⟩ := List.mem_map.mp hx
        exact ⟨_, rfl, z, rfl, hq H (Grows.refl H)⟩
      · rw [filter_yes] at hg3
        refine ⟨g3 _ _ kp, stD g0 c0 0 0, rfl, by show 4 ≤ 15; decide, ?_⟩
        rw [st_new]
        have gP : g0 ≠ p := ne_of (gp _ _ hg1) kp (by intro z; cases z)
        have cP : c0 ≠ p := ne_of hg3 (g3 _ _ kp) (by intro z; cases z)
        have gc : g0 ≠ c0 := ne_of_none (gp _ _ hg1) nc
        refine q _ p g0 c0 ((ns.map V.int).map absI) (fun b o e => ?_) ⟨((ns.map V.int).filter fun v => decide ((10 : Int) ^ (18 : Int).toNat ≤ absI v)).map (fun v => absI v - (10 : Int) ^ (18 : Int).toNat), 0, 0, upd_same, ?_, ?_, gc, ?_, by decide, by decide, by decide⟩ np0 ng
        · rw [upd_ne (ne_of_none e np0)]
          exact g3 _ _ (g2 _ _ e)
        · rw [upd_ne gP, g3 _ _ (gp _ _ hg1), List.map_map]
          rfl
        · rw [upd_ne cP, hg3]
          simp only [List.map_map]
          rfl
        · intro z hz
          obtain ⟨v, hv, rfl⟩ := List.mem_map.mp hz
          have := of_decide_eq_true (List.mem_filter.mp hv).2
          omega
end
end SWL
set_option Elab.async false
set_option linter.all false
set_option maxRecDepth 100000
set_option maxHeartbeats 4000000
namespace SWL
open PySem PySem.Spec PyProof.Rows L2 LamX
theorem pe_no {X : Cx} {e : Expr} : PE X e (fun _ _ _ => False) := ⟨fun _ _ _ _ _ _ h => h.elim⟩
theorem pss_no {X : Cx} {b : List Stmt} : PSs X b (fun _ _ _ => False) := ⟨fun _ _ _ _ _ _ h => h.elim⟩
def spPlain (K : PySem.W.Frag) (k : Nat) : Sp := fun vs H Q _ => ∃ x d, vs = [x] ∧ Dp K H x d ∧ d.depth < k ∧ ∀ H', Grows H H' → Q (.bl true) H'
section
variable {P : Program} {w : World} {K : PySem.W.Frag} {mg : Str → Option Value} {base : Heap}
theorem scPlain : FnScope ["value", "one"] ["value"] (defScope sPlain) := ⟨rfl, rfl, rfl, by decide +kernel, rfl, by decide +kernel, by decide +kernel⟩
theorem dpall_mem {H : Hp} : ∀ {xs : List V} {ds : List PyData}, DpAll K H xs ds → ∀ x ∈ xs, ∃ d, Dp K H x d ∧ d.depth ≤ PyData.depthAll ds
  | _, _, .nil, x, hx => by cases hx
  | _, _, .cons (d := d) (ds := ds) h t, x, hx => by
    rcases List.mem_cons.mp hx with rfl | hx
    · exact ⟨d, h, by rw [PyData.depthAll]; omega⟩
    · obtain ⟨d', h1, h2⟩ := dpall_mem t x hx
      exact ⟨d', h1, by rw [PyData.depthAll]; omega⟩
theorem ok_plain {f : Addr} {fd : FuncData} (F : L2.Fun K "_law_plain" "_law_plain" sPlain f fd) (B : Blt mg) (D : Def mg K "_law_plain" f fd ["value"]) : ∀ k : Nat, FnOk P w K mg base CX0 (k + 1) f fd ["value"] (spPlain K k)
  | 0 => F.ok scPlain (fun vs H Q E h => by obtain ⟨x, d, rfl, _⟩ := h; rfl) (fun cdv A outer s H vs Q E hr h => by
      obtain ⟨x, d, _, _, z, _⟩ := h
      exact absurd z (Nat.not_lt_zero _))
  | k + 1 => by
    have G := ok_plain F B D k
    refine F.ok scPlain (fun vs H Q E h => by obtain ⟨x, d, rfl, _⟩ := h; rfl) (fun cdv A outer s H vs Q E hr h => ⟨_,
      pss_cons (ps_if (pt_truth (pe_callB call_isiT (by rfl) B.isi (by decide +kernel) (pa_cons (pv 0) (pa_cons (pe_tup (pa_cons (pe_bltn (u := .type "list") (v := .ty "list") (by rfl) B.list (by decide +kernel) rfl) (pa_cons (pe_bltn (u := .type "tuple") (v := .ty "tuple") (by rfl) B.tuple (by decide +kernel) rfl) pa_nil))) pa_nil))) (by intro _; rfl))
        (pss_one (ps_ret (pe_cmpR (op_eqD (by have := hr.un; show (A.deeper _).units + 64 < _; omega)) (pe_lc (own := [("one", 1)]) (g := gName 1) (tt := tNot fun σ H Q => tCall (spPlain K k) [] E0 (tCons (tVar 1) tNil) σ H fun x H' => ∃ k, TruV K x H' k ∧ Q k H') rfl scPlain.nd (pi_or (pi_list (pv 0)) (pi_tup (pv 0))) (blkOk_by (N := ["value", "one"]) (sc := defScope sPlain) (by decide +kernel)) (fun _ _ _ _ _ => pg_name (i := 1) scPlain.nd rfl (Or.inl rfl))
          (fun _ _ _ _ _ => pts_one (pt_not (pt_truth (pe_call G hr (by rfl) D.g D.k D.b .nil pass0 (pa_cons (pv 1) pa_nil)) (by intro _; rfl)))) (fun _ _ _ _ _ => pe_int)) (pe_lst pa_nil) (nomark _)))) pss_nil)
      (pss_cons (ps_if (pt_truth (pe_callB call_isi (by rfl) B.isi (by decide +kernel) (pa_cons (pv 0) (pa_cons (pe_bltn (u := .type "dict") (v := .ty "dict") (by rfl) B.dict (by decide +kernel) rfl) pa_nil))) (by intro _; rfl)) pss_no pss_nil)
      (pss_one (ps_ret (pe_or (pe_cmpR op_isN1 (pv 0) pe_non (nomark _)) (pe_one (pe_callB call_isiT (by rfl) B.isi (by decide +kernel) (pa_cons (pv 0) (pa_cons (pe_tup (pa_cons (pe_bltn (u := .type "int") (v := .ty "int") (by rfl) B.int (by decide +kernel) rfl) (pa_cons (pe_bltn (u := .type "str") (v := .ty "str") (by rfl) B.str (by decide +kernel) rfl) pa_nil))) pa_nil)))))))), ?_⟩)
    obtain ⟨x, d, rfl, hd, hk, q⟩ := h
    refine ⟨_, rfl, by show 2 ≤ sizeLine; decide, fun tp ntp => ?_⟩
    have gt : Grows H (upd H tp (.tup [.ty "list", .ty "tuple"])) := Grows.new ntp
    have kt : upd H tp (.tup [.ty "list", .ty "tuple"]) tp = some (.tup [.ty "list", .ty "tuple"]) := upd_same
    generalize upd H tp (.tup [.ty "list", .ty "tuple"]) = H1 at gt kt ⊢
    have kinds : (∃ (a : Addr) (xs : List V) (ds : List PyData), x = .ref a ∧ Sq K H a xs ∧ DpAll K H xs ds ∧ d.depth = 1 + PyData.depthAll ds) ∨ ∃ t : String, TyX K H x (.type t) ∧ kitB t "list" = some false ∧ kitB t "tuple" = some false ∧ kitB t "dict" = some false ∧ (x = .non ∨ (x ≠ .non ∧ PySem.W.kitAny K (.type t) [.type "int", .type "str"] = some true)) := by
      cases hd with
      | non => exact .inr ⟨"NoneType", .base .non, by decide +kernel, by decide +kernel, by decide +kernel, .inl rfl⟩
      | bl b => exact .inr ⟨"bool", .base (.bl b), by decide +kernel, by decide +kernel, by decide +kernel, .inr ⟨(by intro z; cases z), kitAny_cons (b := true) (kit_ty (by decide +kernel)) (fun z => by cases z) fun _ => rfl⟩⟩
      | int b => exact .inr ⟨"int", .base (.int b), by decide +kernel, by decide +kernel, by decide +kernel, .inr ⟨(by intro z; cases z), kitAny_cons (b := true) (kit_ty (by decide +kernel)) (fun z => by cases z) fun _ => rfl⟩⟩
      | str b => exact .inr ⟨"str", .base (.str b), by decide +kernel, by decide +kernel, by decide +kernel, .inr ⟨(by intro z; cases z), kitAny_cons (b := false) (kit_ty (by decide +kernel)) (fun _ => kitAny_cons (b := true) (kit_ty (by decide +kernel)) (fun z => by cases z) fun _ => rfl) fun z => by cases z⟩⟩
      | lst h1 h2 => exact .inl ⟨_, _, _, rfl, .inl h1, h2, by rw [PyData.depth]; omega⟩
      | tup h1 h2 => exact .inl ⟨_, _, _, rfl, .inr h1, h2, by rw [PyData.depth]; omega⟩
    rcases kinds with ⟨a, xs, ds, rfl, hs, hds, hdep⟩ | ⟨t, ty, k1, k2, k3, k4⟩
    · obtain ⟨t, ty, ka⟩ := ty_sq (gt.sq hs)
      refine ⟨.ref a, tp, _, .type t, [.type "list", .type "tuple"], true, rfl, kt, .cons (.ty _) (.cons (.ty _) .nil), ty, ka, true, rfl, if_pos_of rfl ?_⟩
      have main : ∀ (J : It) (G : Hp → Prop), Walk J xs.length G (YAt xs) → (∀ H', Grows H1 H' → G H') → _ := fun J G wk hG D0 (nD : H1 D0 = none) =>
        compF (σ := [some (.ref a), none]) (i := 1) (te := tC (.int 1)) (tt := tNot fun σ H Q => tCall (spPlain K k) [] E0 (tCons (tVar 1) tNil) σ H fun x H' => ∃ k, TruV K x H' k ∧ Q k H')
          (Qd := fun H2 => tLst tNil [some (.ref a), none] H2 fun y H3 => rEqD K (.ref D0) y H3 fun v H4 => Q v H4) wk (fun _ => false) (fun _ => .int 1) nD hG (by rw [show xs.filter (fun _ => false) = [] from by simp]; exact Nat.zero_le _)
          (fun y H2 kk hy g2 hkk => by
            obtain ⟨d', h1, h2⟩ := dpall_mem hds y hy
            refine ⟨_, rfl, y, d', rfl, (gt.trans g2).dp _ _ h1, by omega, fun H3 g3 => ⟨true, rfl, hkk H3 g3⟩⟩)
          (fun y H2 Q hy hp => by cases hp)
          (fun H2 g2 hD => by
            have e : (xs.filter fun _ => false).map (fun _ => V.int 1) = [] := by simp
            rw [e] at hD
            refine ⟨by show 0 ≤ sizeLine; decide, fun p np => ?_⟩
            exact ⟨.list [], .list [], .lst (.inl (.inl ((Grows.new np) _ _ hD))) .nil, .lst (.inl (.inl upd_same)) .nil, rfl, rfl, q _ ((gt.trans g2).trans (Grows.new np))⟩)
      rcases hs with hs | hs
      · exact .inl ⟨_, rfl, a, rfl, ⟨_, gt.l hs⟩, main _ _ walk_list fun H' g => (gt.trans g).l hs⟩
      · exact .inr ⟨_, rfl, a, rfl, ⟨_, gt.t hs⟩, main _ _ walk_tup fun H' g => (gt.trans g).t hs⟩
    · refine ⟨x, tp, _, .type t, [.type "list", .type "tuple"], false, rfl, kt, .cons (.ty _) (.cons (.ty _) .nil), tyx_grows gt ty, NotSeq.kit k1 k2, false, rfl, if_neg_of (by decide) ?_⟩
      refine ⟨_, rfl, x, .ty "dict", .type t, .type "dict", false, rfl, .ty "dict", tyx_grows gt ty, kit_ty k3, false, rfl, if_neg_of (by decide) ?_⟩
      rcases k4 with e | ⟨e, k4⟩
      · exact ⟨_, rfl, rfl, _, rfl, if_pos_of (decide_eq_true e) (q H1 gt)⟩
      · refine ⟨_, rfl, rfl, _, rfl, if_neg_of (by rw [decide_eq_false e]; decide) ?_⟩
        refine ⟨_, rfl, by show 2 ≤ sizeLine; decide, fun tp2 ntp2 => ?_⟩
        exact ⟨x, tp2, _, .type t, [.type "int", .type "str"], true, rfl, upd_same, .cons (.ty _) (.cons (.ty _) .nil), tyx_grows (gt.trans (Grows.new ntp2)) ty, k4, q _ (gt.trans (Grows.new ntp2))⟩
end
structure GoodD (d : PyData) : Prop where
  lay : d.layable0 = true
  dep : d.depth ≤ 50
  short : d.intsShort 13 = true
  sh : d.showable = true
  nd : d.hasDict = false
theorem GoodD.can {d : PyData} (g : GoodD d) : d.canLay0 = true := by
  have h : (PyData.canLay0 d && decide (PyData.depth d ≤ 64) && decide (PyData.weight d ≤ 2 ^ 20)) = true := g.lay
  simp only [Bool.and_eq_true] at h
  exact h.1.1
theorem GoodD.shaped {d : PyData} (g : GoodD d) : SeqAt.shaped d = true := SeqAt.shaped_of_layable g.lay
section
variable {P : Program} {w : World} {K : PySem.W.Frag} {mg : Str → Option Value} {base : Heap}
theorem scIs : FnScope ["found", "due"] ["found", "due"] (defScope sIs) := ⟨rfl, rfl, rfl, by decide +kernel, rfl, by decide +kernel, by decide +kernel⟩
end
/-- what is told and what is due: one data -/
def spIsV (K : PySem.W.Frag) (k : Nat) : Sp := fun vs H Q _ => ∃ (x y : V) (d : PyData), vs = [x, y] ∧ Dp K H x d ∧ Dp K H y d ∧ GoodD d ∧ d.depth < k ∧ ∀ H', Grows H H' → Q (.bl true) H'
theorem good_str {z : Str} (h1 : PyData.strOk z = true) (h2 : z.length ≤ 100000) : GoodD (.str z) := by
  refine ⟨?_, Nat.zero_le _, rfl, rfl, rfl⟩
  unfold PyData.layable0
  have e1 : PyData.canLay0 (.str z) = true := h1
  have e2 : PyData.weight (.str z) = z.length := by rw [PyData.weight]; rfl
  rw [e1, e2]
  have : z.length ≤ 2 ^ 20 := by omega
  simp [this, PyData.depth]
theorem good_bool (b : Bool) : GoodD (.bool b) := by
  cases b <;> exact ⟨by decide +kernel, by decide +kernel, by decide +kernel, by decide +kernel, by decide +kernel⟩
section
variable {P : Program} {w : World} {K : PySem.W.Frag} {mg : Str → Option Value} {base : Heap}
theorem ok_isV {f f1 : Addr} {fd fd1 : FuncData} {k : Nat} (F : L2.Fun K "_law_is" "_law_is" sIs f fd) (B : Blt mg) (G : FnOk P w K mg base CX0 (k + 1) f1 fd1 ["value"] (spPlain K k)) (D : Def mg K "_law_plain" f1 fd1 ["value"]) : FnG P w K mg base (k + 2) f fd ["found", "due"] (spIsV K k) := by
  refine fng_ok F scIs (fun vs H Q E h => ?_) (fun cdv A outer s H vs Q E gA _ hr h => ⟨_,
    pss_one (ps_ret (pe_and (pe_call G hr (by rfl) D.g D.k D.b .nil pass0 (pa_cons (pv 0) pa_nil))
      (pe_and (pe_cmpR (op_eqD (by have := hr.un; show (A.deeper _).units + 64 < _; omega)) (pv 0) (pv 1) (nomark _))
      (pe_and (pe_cmpR (op_eqD (by have := hr.un; show (A.deeper _).units + 64 < _; omega)) (pv 1) (pv 0) (nomark _))
      (pe_one (pe_cmpR op_eq (pe_callB (cr_reprD gA (by have := hr.un; show (A.deeper _).units + 64 < _; omega)) (by rfl) B.repr (by decide +kernel) (pa_cons (pv 0) pa_nil)) (pe_callB (cr_reprD gA (by have := hr.un; show (A.deeper _).units + 64 < _; omega)) (by rfl) B.repr (by decide +kernel) (pa_cons (pv 1) pa_nil)) (nomark _))))))), ?_⟩)
  · obtain ⟨a, b, d, rfl, _⟩ := h
    rfl
  · obtain ⟨a, b, d, rfl, h1, h2, g, hk, q⟩ := h
    have fit : d.shown.length ≤ sizeLine := by
      have := PyData.shown_le_of_layable0 g.lay g.short
      exact Nat.le_trans this (by decide)
    refine ⟨_, rfl, _, d, rfl, h1, hk, fun H1 g1 => ⟨true, rfl, if_pos_of rfl ?_⟩⟩
    have k1 := g1.dp _ _ h1
    have k2 := g1.dp _ _ h2
    refine ⟨_, rfl, _, rfl, d, d, k1, k2, g.shaped, g.shaped, PyData.eqv d d, rfl, ?_⟩
    rw [PySem.SeqAt.eqv_refl d g.can]
    refine if_pos_of rfl ⟨_, rfl, _, rfl, d, d, k2, k1, g.shaped, g.shaped, PyData.eqv d d, rfl, ?_⟩
    rw [PySem.SeqAt.eqv_refl d g.can]
    refine if_pos_of rfl ⟨_, rfl, a, d, rfl, k1, g.sh, g.nd, g.dep, fit, _, rfl, b, d, rfl, k2, g.sh, g.nd, g.dep, fit, rfl, ?_⟩
    rw [decide_eq_true rfl]
    exact q H1 g1
end
end SWL
set_option Elab.async false
set_option linter.all false
set_option maxRecDepth 100000
set_option maxHeartbeats 4000000
namespace SWL
open PySem PySem.Spec PyProof.Rows L2 LamX
/-- no number -/
def NotNum (K : PySem.W.Frag) (H : Hp) (x : V) : Prop := (∃ b, x = .bl b) ∨ ∃ t : String, TyX K H x (.type t) ∧ kitB t "int" = some false
theorem NotNum.grows {K : PySem.W.Frag} {H H' : Hp} (g : Grows H H') {x : V} (h : NotNum K H x) : NotNum K H' x := h.imp id fun ⟨t, h1, h2⟩ => ⟨t, tyx_grows g h1, h2⟩
def spIsNum (K : PySem.W.Frag) : Sp := fun vs H Q _ => ∃ x lo hi, vs = [x, .int lo, .int hi] ∧ ((∃ i, x = .int i ∧ Q (.bl (decide (lo ≤ i ∧ i ≤ hi))) H) ∨ (NotNum K H x ∧ Q (.bl false) H))
section
variable {P : Program} {w : World} {K : PySem.W.Frag} {mg : Str → Option Value} {base : Heap}
theorem scIsNum : FnScope ["thing", "least", "most"] ["thing", "least", "most"] (defScope sIsNum) := ⟨rfl, rfl, rfl, by decide +kernel, rfl, by decide +kernel, by decide +kernel⟩
theorem ok_isNum {f : Addr} {fd : FuncData} (F : L2.Fun K "is_number" "is_number" sIsNum f fd) (B : Blt mg) : FnOk P w K mg base CX0 1 f fd ["thing", "least", "most"] (spIsNum K) := by
  refine F.ok scIsNum (fun vs H Q E h => ?_) (fun cdv A outer s H vs Q E hr h => ⟨_,
    pss_one (ps_ret (pe_and (pe_callB call_isi (by rfl) B.isi (by decide +kernel) (pa_cons (pv 0) (pa_cons (pe_bltn (u := .type "int") (v := .ty "int") (by rfl) B.int (by decide +kernel) rfl) pa_nil)))
      (pe_and (pe_not (pe_callB call_isi (by rfl) B.isi (by decide +kernel) (pa_cons (pv 0) (pa_cons (pe_bltn (u := .type "bool") (v := .ty "bool") (by rfl) B.bool (by decide +kernel) rfl) pa_nil))))
      (pe_one (pe_chain op_le op_le (pv 1) (pv 0) (pv 2)))))), ?_⟩)
  · obtain ⟨x, lo, hi, rfl, _⟩ := h
    rfl
  · obtain ⟨x, lo, hi, rfl, h⟩ := h
    rcases h with ⟨i, rfl, q⟩ | ⟨⟨b, rfl⟩ | ⟨t, ty, hk⟩, q⟩
    · refine ⟨_, rfl, .int i, .ty "int", .type "int", .type "int", true, rfl, .ty "int", .base (.int i), kit_ty (by decide +kernel), true, rfl, if_pos_of rfl ?_⟩
      refine ⟨_, rfl, .int i, .ty "bool", .type "int", .type "bool", false, rfl, .ty "bool", .base (.int i), kit_ty (by decide +kernel), false, rfl, true, rfl, if_pos_of rfl ?_⟩
      refine ⟨_, rfl, _, rfl, _, _, rfl, rfl, _, rfl, ?_⟩
      by_cases h1 : lo ≤ i
      · refine if_pos_of (decide_eq_true h1) ⟨_, rfl, _, _, rfl, rfl, ?_⟩
        rw [show decide (lo ≤ i ∧ i ≤ hi) = decide (i ≤ hi) from decide_eq_decide.mpr ⟨fun z => z.2, fun z => ⟨h1, z⟩⟩] at q
        exact q
      · refine if_neg_of (by rw [decide_eq_false h1]; decide) ?_
        rw [show decide (lo ≤ i ∧ i ≤ hi) = false from decide_eq_false fun z => h1 z.1] at q
        exact q
    · refine ⟨_, rfl, .bl b, .ty "int", .type "bool", .type "int", true, rfl, .ty "int", .base (.bl b), kit_ty (by decide +kernel), true, rfl, if_pos_of rfl ?_⟩
      exact ⟨_, rfl, .bl b, .ty "bool", .type "bool", .type "bool", true, rfl, .ty "bool", .base (.bl b), kit_ty (by decide +kernel), true, rfl, false, rfl, if_neg_of (by decide) q⟩
    · exact ⟨_, rfl, x, .ty "int", .type t, .type "int", false, rfl, .ty "int", ty, kit_ty hk, false, rfl, if_neg_of (by decide) q⟩
end
end SWL
set_option Elab.async false
set_option linter.all false
set_option maxRecDepth 100000
set_option maxHeartbeats 4000000
namespace SWL
open PySem PySem.Spec PyProof.Rows L2 LamX
/-! the numbers' keeper: what it has met -/
theorem wl_ : ¬ (("by_word" : Str) = "by_lot") := by decide +kernel
theorem lw_ : ¬ (("by_lot" : Str) = "by_word") := by decide +kernel
def tyf (a b : Addr) : List (Str × V) := putF "by_lot" (.ref b) (putF "by_word" (.ref a) [])
theorem tyf_words (a b : Addr) : (tyf a b).lookup ("by_word" : Str) = some (.ref a) := by
  unfold tyf
  rw [lookup_putF, if_neg wl_, lookup_putF, if_pos rfl]
theorem tyf_lots (a b : Addr) : (tyf a b).lookup ("by_lot" : Str) = some (.ref b) := by
  unfold tyf
  rw [lookup_putF, if_pos rfl]
theorem tyf_no (a b : Addr) {m : Str} (h1 : ¬ m = "by_lot") (h2 : ¬ m = "by_word") : (tyf a b).lookup m = none := by
  unfold tyf
  rw [lookup_putF, if_neg h1, lookup_putF, if_neg h2]
  rfl
/-- the class -/
structure TyC (K : PySem.W.Frag) (mg : Str → Option Value) (C fL fN : Addr) : Prop where
  cl : Cls K C
  nW : NoAttr K C "by_word"
  nL : NoAttr K C "by_lot"
  mL : Meth K C "lot" fL
  mN : Meth K C "number" fN
abbrev Met := List ((Nat × Str) × Nat)
def keyV (e : Nat × Str) : List Key := [.inl ((e.1 : Nat) : Int), .inr e.2]
theorem keyV_inj {e e' : Nat × Str} (h : keyV e = keyV e') : e = e' := by
  unfold keyV at h
  have h1 := (List.cons.inj h).1
  have h2 := (List.cons.inj (List.cons.inj h).2).1
  have e1 := Sum.inl.inj h1
  exact Prod.ext (by omega) (Sum.inr.inj h2)
def kvs (M : Met) : List (List Key × V) := M.map fun e => (keyV e.1, .int ((e.2 : Nat) : Int))
theorem val_kvs (e : Nat × Str) : ∀ M : Met, (valV (kvs M) (keyV e) = none ∧ ∀ i, (e, i) ∉ M) ∨ ∃ i : Nat, valV (kvs M) (keyV e) = some (.int ((i : Nat) : Int)) ∧ (e, i) ∈ M
  | [] => .inl ⟨rfl, fun i h => by cases h⟩
  | (e', i') :: M => by
    have ih := val_kvs e M
    by_cases c : e' = e
    · subst c
      exact .inr ⟨i', valV_pos rfl, List.mem_cons_self⟩
    · have cn : ¬ keyV e' = keyV e := fun z => c (keyV_inj z)
      have ev : valV (kvs ((e', i') :: M)) (keyV e) = valV (kvs M) (keyV e) := valV_neg cn
      rw [ev]
      rcases ih with ⟨h1, h2⟩ | ⟨i, h1, h2⟩
      · refine .inl ⟨h1, fun i h => ?_⟩
        rcases List.mem_cons.mp h with z | z
        · exact c (Prod.mk.inj z).1.symm
        · exact h2 i z
      · exact .inr ⟨i, h1, List.mem_cons_of_mem _ h2⟩
def triKey (t : Tri) : NestedKey := .tup [.num ((t.1 : Nat) : Int), .text (sg t.2.1), .num ((t.2.2 : Nat) : Int)]
def lotKey (l : LotK) : NestedKey := .tup [.num ((l.1 : Nat) : Int), .tup (l.2.map triKey)]
theorem triKey_inj {p q : Tri} (h : triKey p = triKey q) : p = q := by
  have h := NestedKey.tup.inj h
  simp only [List.cons.injEq, NestedKey.text.injEq, NestedKey.num.injEq, and_true] at h
  obtain ⟨h1, h2, h3⟩ := h
  exact Prod.ext (by omega) (Prod.ext (sg_inj h2) (by omega))
theorem map_inj_of {α β : Type} {f : α → β} (k : ∀ a b, f a = f b → a = b) : ∀ {l m : List α}, l.map f = m.map f → l = m
  | [], [], _ => rfl
  | [], _ :: _, h => by cases h
  | _ :: _, [], h => by cases h
  | a :: l, b :: m, h => by
    rw [List.map_cons, List.map_cons] at h
    obtain ⟨h1, h2⟩ := List.cons.inj h
    rw [k a b h1, map_inj_of k h2]
theorem lotKey_inj {l k : LotK} (h : lotKey l = lotKey k) : l = k := by
  have h := NestedKey.tup.inj h
  simp only [List.cons.injEq, NestedKey.num.injEq, and_true] at h
  obtain ⟨h1, h2⟩ := h
  exact Prod.ext (by omega) (map_inj_of (fun a b z => triKey_inj z) (NestedKey.tup.inj h2))
theorem lotKey_depth (l : LotK) : (lotKey l).depth ≤ 8 := by
  have e : ∀ ps : List Tri, NestedKey.depthAll (ps.map triKey) ≤ 1 := by
    intro ps
    induction ps with
    | nil => exact Nat.zero_le _
    | cons p ps ih =>
      rw [List.map_cons, NestedKey.depthAll]
      have : (triKey p).depth = 1 := rfl
      omega
  have e1 := e l.2
  have e2 : (lotKey l).depth = max 0 (max (NestedKey.depthAll (l.2.map triKey) + 1) 0) + 1 := rfl
  omega
structure TyAt (P : Program) (w : World) (C : Addr) (H : Hp) (x a b : Addr) (M : Met) (L : List LotK) : Prop where
  obj : ∃ dx, H x = some (.ins C dx (tyf a b))
  met : H a = some (.dT (kvs M))
  lots : ∃ rows : List NRow, H b = some (NDO P w b rows) ∧ KeysAt H rows ∧ rows.map (·.1) = L.map lotKey ∧ ∀ (i : Nat) (r : NRow), rows[i]? = some r → r.2.2 = .int ((i : Nat) : Int)
  good : ∀ e ∈ M, Rel L e.1.1 e.1.2.cps.toList e.2
  ndM : (M.map (·.1)).Nodup
  ndL : L.Nodup
theorem KeysAt.keep {H H' : Hp} (g : ∀ b xs, H b = some (.tup xs) → H' b = some (.tup xs)) {rows : List NRow} (h : KeysAt H rows) : KeysAt H' rows := fun r hr => ⟨NkAt.keep g _ (h r hr).1, (h r hr).2⟩
theorem TyAt.grows {P : Program} {w : World} {C x a b : Addr} {H H' : Hp} {M : Met} {L : List LotK} (g : Grows H H') (t : TyAt P w C H x a b M L) : TyAt P w C H' x a b M L := by
  obtain ⟨dx, h1⟩ := t.obj
  obtain ⟨rows, h2, h3, h4⟩ := t.lots
  exact ⟨⟨dx, g _ _ h1⟩, g _ _ t.met, ⟨rows, g _ _ h2, h3.keep fun b xs e => g _ _ e, h4⟩, t.good, t.ndM, t.ndL⟩
/-- what the keeper may have met -/
structure Known (U : List Wl) (M : Met) : Prop where
  all : ∀ e ∈ M, e.1.1 ≤ 8 ∧ e.1.2.cps.toList ∈ U
/-- what comes of a word's number: the keeper with more met -/
structure More (P : Program) (w : World) (C : Addr) (U : List Wl) (H H' : Hp) (x a b : Addr) (L : List LotK) (M' : Met) (L' : List LotK) : Prop where
  at_ : TyAt P w C H' x a b M' L'
  few : L'.length ≤ M'.length
  ext : ∀ (k : Nat) (l : LotK), L[k]? = some l → L'[k]? = some l
  but : But H H' a b
  known : Known U M'
/-- a word's number, for numbers up to m -/
def spNum (P : Program) (w : World) (C : Addr) (m : Nat) : Sp := fun vs H Q _ => ∃ (x a b : Addr) (M : Met) (L : List LotK) (n : Nat) (z : Str) (U : List Wl), vs = [.ref x, .int ((n : Nat) : Int), .str z] ∧ n ≤ m ∧ m ≤ 8 ∧ TyAt P w C H x a b M L ∧ L.length ≤ M.length ∧ Known U M ∧ z.length ≤ 40 ∧ z.cps.toList ∈ U ∧ Cut U ∧ U.length ≤ 100000 ∧
  ∀ (H' : Hp) (M' : Met) (L' : List LotK) (i : Nat), More P w C U H H' x a b L M' L' → Rel L' n z.cps.toList i → (∀ e ∈ M', e ∈ M ∨ e.1.1 ≤ n) → Q (.int ((i : Nat) : Int)) H'
theorem str_eq {y z : Str} (h : y.cps.toList = z.cps.toList) : y = z := by
  cases y with | mk a => cases z with | mk b =>
  have : a = b := Array.toList_inj.mp h
  rw [this]
theorem met_len {M : Met} {U : List Wl} (nd : (M.map (·.1)).Nodup) (h : ∀ e ∈ M, e.1.1 ≤ 8 ∧ e.1.2.cps.toList ∈ U) : M.length ≤ 9 * U.length := by
  let D : List (Nat × Wl) := (List.range 9).flatMap fun n => U.map fun u => (n, u)
  have dl : D.length = 9 * U.length := by
    show ((List.range 9).flatMap fun n => U.map fun u => (n, u)).length = _
    rw [List.length_flatMap]
    simp only [List.length_map]
    show (U.length + (U.length + (U.length + (U.length + (U.length + (U.length + (U.length + (U.length + (U.length + 0))))))))) = _
    omega
  have inj : ∀ l : List (Nat × Str), l.Nodup → (l.map fun e => (e.1, e.2.cps.toList)).Nodup := by
    intro l
    induction l with
    | nil => intro _; exact .nil
    | cons e l ih =>
      intro h
      obtain ⟨h1, h2⟩ := List.nodup_cons.mp h
      rw [List.map_cons]
      refine List.nodup_cons.mpr ⟨fun m => ?_, ih h2⟩
      obtain ⟨e', he, q⟩ := List.mem_map.mp m
      obtain ⟨q1, q2⟩ := Prod.mk.inj q
      have : e' = e := Prod.ext q1 (str_eq q2)
      rw [this] at he
      exact h1 he
  have := len_within _ D (inj _ nd) fun y hy => by
    obtain ⟨e, he, rfl⟩ := List.mem_map.mp hy
    obtain ⟨e0, he0, rfl⟩ := List.mem_map.mp he
    obtain ⟨h1, h2⟩ := h e0 he0
    exact List.mem_flatMap.mpr ⟨e0.1.1, List.mem_range.mpr (by omega), List.mem_map.mpr ⟨_, h2, rfl⟩⟩
  rw [List.length_map, List.length_map, dl] at this
  exact this
theorem cut_to (z : Str) (i : Nat) : (cutS z none (some ((i : Nat) : Int))).cps.toList = z.cps.toList.take i := by
  have h1 : HT.sIx z.length 0 none = 0 := rfl
  have h2 : HT.sIx z.length z.length (some ((i : Nat) : Int)) = min i z.length := HT.sIx_nat _ _ i
  unfold cutS
  rw [h1, h2]
  show (z.cps.toList.drop 0).take (min i z.length - 0) = _
  rw [List.drop_zero, Nat.sub_zero]
  by_cases h : i ≤ z.length
  · rw [Nat.min_eq_left h]
  · have e : z.cps.toList.length = z.length := cut_len z
    rw [Nat.min_eq_right (by omega), List.take_of_length_le (by omega), List.take_of_length_le (by omega)]
theorem cut_from (z : Str) (i : Nat) : (cutS z (some ((i : Nat) : Int)) none).cps.toList = z.cps.toList.drop i := by
  have h1 : HT.sIx z.length 0 (some ((i : Nat) : Int)) = min i z.length := HT.sIx_nat _ _ i
  have h2 : HT.sIx z.length z.length none = z.length := rfl
  have e : z.cps.toList.length = z.length := cut_len z
  unfold cutS
  rw [h1, h2]
  show (z.cps.toList.drop (min i z.length)).take (z.length - min i z.length) = _
  by_cases h : i ≤ z.length
  · rw [Nat.min_eq_left h]
    exact List.take_of_length_le (by rw [List.length_drop]; omega)
  · rw [Nat.min_eq_right (by omega), List.drop_eq_nil_of_le (by omega), List.drop_eq_nil_of_le (by omega), List.take_nil]
/-- what is not the keeper's is written: it stays -/
theorem TyAt.keep {P : Program} {w : World} {C x a b : Addr} {H H' : Hp} {M : Met} {L : List LotK} (t : TyAt P w C H x a b M L) (g : ∀ c, c = x ∨ c = a ∨ c = b → ∀ o, H c = some o → H' c = some o) (gt : ∀ c xs, H c = some (.tup xs) → H' c = some (.tup xs)) : TyAt P w C H' x a b M L := by
  obtain ⟨dx, h1⟩ := t.obj
  obtain ⟨rows, h2, h3, h4⟩ := t.lots
  exact ⟨⟨dx, g _ (.inl rfl) _ h1⟩, g _ (.inr (.inl rfl)) _ t.met, ⟨rows, g _ (.inr (.inr rfl)) _ h2, h3.keep gt, h4⟩, t.good, t.ndM, t.ndL⟩
theorem valN_some {k : NestedKey} {v : V} : ∀ {rows : List NRow}, valN rows k = some v → ∃ (i : Nat) (r : NRow), rows[i]? = some r ∧ r.1 = k ∧ r.2.2 = v
  | [], h => by cases h
  | r :: rows, h => by
    unfold valN at h
    by_cases c : r.1 = k
    · rw [List.find?_cons_of_pos (by exact decide_eq_true c)] at h
      exact ⟨0, r, rfl, c, Option.some.inj h⟩
    · rw [List.find?_cons_of_neg (by simpa using c)] at h
      obtain ⟨i, r', h1, h2⟩ := valN_some (rows := rows) h
      exact ⟨i + 1, r', h1, h2⟩
theorem valN_none {k : NestedKey} : ∀ {rows : List NRow}, valN rows k = none → ∀ r ∈ rows, r.1 ≠ k
  | [], _, r, hr => by cases hr
  | r0 :: rows, h, r, hr => by
    unfold valN at h
    by_cases c : r0.1 = k
    · rw [List.find?_cons_of_pos (by exact decide_eq_true c)] at h
      cases h
    · rw [List.find?_cons_of_neg (by simpa using c)] at h
      rcases List.mem_cons.mp hr with rfl | hr
      · exact c
      · exact valN_none (rows := rows) h r hr
/-- the tuple of a triple -/
def TriAt (H : Hp) (t : Addr) (p : Tri) : Prop := H t = some (.tup [.int ((p.1 : Nat) : Int), .str (sg p.2.1), .int ((p.2.2 : Nat) : Int)])
theorem tris_keep {H H' : Hp} (g : ∀ c xs, H c = some (.tup xs) → H' c = some (.tup xs)) : ∀ {ts : List Addr} {ps : List Tri}, Paired (TriAt H) ts ps → Paired (TriAt H') ts ps
  | _, _, .nil => .nil
  | _, _, .cons h t => .cons (g _ _ h) (tris_keep g t)
theorem tris_all {H : Hp} : ∀ {ts : List Addr} {ps : List Tri}, Paired (TriAt H) ts ps → NkAll H (ts.map V.ref) (ps.map triKey)
  | _, _, .nil => .nil
  | _, _, .cons h t => .cons (.tup h (.cons (.int _) (.cons (.str _) (.cons (.int _) .nil)))) (tris_all t)
theorem TyAt.tups {P : Program} {w : World} {C x a b : Addr} {H H' : Hp} {M : Met} {L : List LotK} (t : TyAt P w C H x a b M L) (k : But H H' a b) : ∀ c xs, H c = some (.tup xs) → H' c = some (.tup xs) := fun c xs e => by
  obtain ⟨rows, h2, _⟩ := t.lots
  exact k c _ e (ne_of e t.met (by intro z; cases z)) (ne_of e h2 (by unfold NDO; intro z; cases z))
theorem TyAt.ab {P : Program} {w : World} {C x a b : Addr} {H : Hp} {M : Met} {L : List LotK} (t : TyAt P w C H x a b M L) : a ≠ b ∧ x ≠ a ∧ x ≠ b := by
  obtain ⟨rows, h2, _⟩ := t.lots
  obtain ⟨dx, h1⟩ := t.obj
  exact ⟨ne_of t.met h2 (by unfold NDO; intro z; cases z), ne_of h1 t.met (by intro z; cases z), ne_of h1 h2 (by unfold NDO; intro z; cases z)⟩
theorem TyAt.lst {P : Program} {w : World} {C x a b D : Addr} {H : Hp} {M : Met} {L : List LotK} {xs ys : List V} (t : TyAt P w C H x a b M L) (h : H D = some (.lst xs)) : TyAt P w C (upd H D (.lst ys)) x a b M L := by
  obtain ⟨rows, h2, _⟩ := t.lots
  obtain ⟨dx, h1⟩ := t.obj
  refine t.keep (fun c hc o e => ?_) fun c zs e => by rw [upd_ne (ne_of e h (by intro z; cases z))]; exact e
  rw [upd_ne ?_]
  · exact e
  · rcases hc with rfl | rfl | rfl
    · exact ne_of h1 h (by intro z; cases z)
    · exact ne_of t.met h (by intro z; cases z)
    · exact ne_of h2 h (by unfold NDO; intro z; cases z)
end SWL
set_option Elab.async false
set_option linter.all false
set_option maxRecDepth 100000
set_option maxHeartbeats 16000000
namespace SWL
open PySem PySem.Spec PyProof.Rows L2 LamX
def spInit (P : Program) (w : World) (C : Addr) : Sp := fun vs H Q _ => ∃ x dx, vs = [.ref x] ∧ H x = some (.ins C dx []) ∧ ∀ (H' : Hp) (a b : Addr), TyAt P w C H' x a b [] [] → a ≠ x → b ≠ x → H a = none → H b = none → (∀ c o, c ≠ x → H c = some o → H' c = some o) → Q .non H'
def spLot (P : Program) (w : World) (C : Addr) (m : Nat) : Sp := fun vs H Q _ => ∃ (x a b : Addr) (M : Met) (L : List LotK) (n : Nat) (z : Str) (U : List Wl), vs = [.ref x, .int ((n + 1 : Nat) : Int), .str z] ∧ n ≤ m ∧ m ≤ 8 ∧ TyAt P w C H x a b M L ∧ L.length ≤ M.length ∧ Known U M ∧ z.length ≤ 40 ∧ z.cps.toList ∈ U ∧ Cut U ∧ U.length ≤ 100000 ∧
  ∀ (H' : Hp) (M' : Met) (L' : List LotK) (D : Addr) (ts : List Addr) (qs : List Tri), More P w C U H H' x a b L M' L' → (∀ e ∈ M', e ∈ M ∨ e.1.1 ≤ n) → H D = none → H' D = some (.lst (ts.map V.ref)) → Paired (TriAt H') ts qs → qs.length = z.cps.toList.length →
    (∀ (i : Nat) (q : Tri), qs[i]? = some q → z.cps.toList[i]? = some q.2.1) → (∀ (i : Nat) (q : Tri), qs[i]? = some q → Rel L' n (z.cps.toList.take i) q.1) → (∀ (i : Nat) (q : Tri), qs[i]? = some q → Rel L' n (z.cps.toList.drop (i + 1)) q.2.2) → Q (.ref D) H'
def spLotI (P : Program) (w : World) (C : Addr) : Nat → Sp
  | 0 => fun _ _ _ _ => False
  | m + 1 => spLot P w C m
section
variable {P : Program} {w : World} {K : PySem.W.Frag} {mg : Str → Option Value} {base : Heap}
theorem scInit : FnScope ["self"] ["self"] (defScope sInit) := ⟨rfl, rfl, rfl, by decide +kernel, rfl, by decide +kernel, by decide +kernel⟩
theorem ok_init {f C fL fN : Addr} {fd : FuncData} (F : L2.Fun K "__init__" "Types.__init__" sInit f fd) (T : TyC K mg C fL fN) : FnOk P w K mg base CX0 1 f fd ["self"] (spInit P w C) := by
  refine F.ok scInit (fun vs H Q E h => ?_) (fun cdv A outer s H vs Q E hr h => ⟨_, pss_cons (ps_fld (pv 0) pe_dnewT rfl) (pss_one (ps_fld (pv 0) pe_dnewN rfl)), ?_⟩)
  · obtain ⟨x, dx, rfl, _⟩ := h
    rfl
  · obtain ⟨x, dx, rfl, hx, q⟩ := h
    intro a na
    have ax : a ≠ x := (ne_of_none hx na).symm
    refine ⟨_, rfl, x, C, dx, [], rfl, by rw [upd_ne ax.symm]; exact hx, T.cl, T.nW, by show 0 < 1000; decide, ?_⟩
    intro b nb
    have bx : b ≠ x := fun e => by
      rw [e, upd_same] at nb
      cases nb
    rw [upd_ne bx] at nb
    have ba : b ≠ a := fun e => by
      rw [e, upd_same] at nb
      cases nb
    rw [upd_ne ba] at nb
    refine ⟨_, rfl, x, C, dx, _, rfl, by rw [upd_ne bx.symm, upd_same], T.cl, T.nL, by show 1 < 1000; decide, ?_⟩
    refine q _ a b ⟨⟨dx, upd_same⟩, ?_, ⟨[], ?_, (fun r hr => by cases hr), rfl, (fun i r h => by cases h)⟩, (fun e he => by cases he), List.nodup_nil, List.nodup_nil⟩ ax bx na nb fun c o cx e => ?_
    · rw [upd_ne ax, upd_ne ba.symm, upd_ne ax, upd_same]
      rfl
    · rw [upd_ne bx, upd_same]
      rfl
    · rw [upd_ne cx, upd_ne (ne_of_none e nb), upd_ne cx, upd_ne (ne_of_none e na)]
      exact e
theorem scLot : FnScope ["self", "n", "word", "found", "at", "letter"] ["self", "n", "word"] (defScope sLot) := ⟨rfl, rfl, rfl, by decide +kernel, rfl, by decide +kernel, by decide +kernel⟩
theorem nN_ : ¬ (("number" : Str) = "by_lot") := by decide +kernel
theorem nN2_ : ¬ (("number" : Str) = "by_word") := by decide +kernel
theorem nO_ : ¬ (("lot" : Str) = "by_lot") := by decide +kernel
theorem nO2_ : ¬ (("lot" : Str) = "by_word") := by decide +kernel
theorem ok_lot {f fN C : Addr} {fd fdN : FuncData} {m : Nat} (F : L2.Fun K "lot" "Types.lot" sLot f fd) (B : Blt mg) (T : TyC K mg C f fN) (GN : FnOk P w K mg base CX0 (2 * m + 1) fN fdN ["self", "n", "word"] (spNum P w C m)) (bN : Binds K fdN ["self", "n", "word"] []) :
    FnOk P w K mg base CX0 (2 * (m + 1)) f fd ["self", "n", "word"] (spLotI P w C (m + 1)) := by
  refine F.ok scLot (fun vs H Q E h => ?_) (fun cdv A outer s H vs Q E hr h => ⟨_,
    pss_cons (ps_set (i := 3) scLot.nd rfl (Or.inl rfl) (pe_lst pa_nil))
    (pss_cons (ps_for PassesOwn.never rfl (pi_enumS (by rfl) B.enum (pa_cons (pv 2) pa_nil)) (pg_tup rfl (pgs_cons (pg_name (i := 4) scLot.nd rfl (Or.inl rfl)) (pgs_cons (pg_name (i := 5) scLot.nd rfl (Or.inl rfl)) pgs_nil)))
      (pss_one (ps_expr (pe_bm PySem.F.plainAttrs_list PySem.F.slot_list_append PySem.F.type_list_append mt_append (pv 3) (pa_cons (pe_tup
        (pa_cons (pe_meth (pv 0) T.cl T.mN GN hr bN .nil pass0 (pa_cons (pe_op op_sub (pv 1) pe_int) (pa_cons (pe_slice sl_str (pv 2) po_none (po_some (pv 4))) pa_nil)))
        (pa_cons (pv 5)
        (pa_cons (pe_meth (pv 0) T.cl T.mN GN hr bN .nil pass0 (pa_cons (pe_op op_sub (pv 1) pe_int) (pa_cons (pe_slice sl_str (pv 2) (po_some (pe_op op_add (pv 4) pe_int)) po_none) pa_nil))) pa_nil)))) pa_nil)))))
    (pss_one (ps_ret (pv 3)))), ?_⟩)
  · obtain ⟨x, a, b, M, L, n, z, U, rfl, _⟩ := h
    rfl
  · obtain ⟨x, a, b, M, L, n, z, U, rfl, hn, hm, t, hLM, kM, hz, hU, cU, lU, q⟩ := h
    have sz : sizeLine = 16777216 := sizeLine_eq
    have n1 : ∀ y : V, (V.ref x :: ([V.int (((n + 1 : Nat) : Int) - 1), y] ++ [])) = [V.ref x, V.int ((n : Nat) : Int), y] := fun y => by
      rw [show (((n + 1 : Nat) : Int) - 1) = ((n : Nat) : Int) by omega]
      rfl
    obtain ⟨dx, hx⟩ := t.obj
    refine ⟨by show 0 ≤ sizeLine; decide, fun D nD => ?_⟩
    have gD : Grows H (upd H D (.lst [])) := Grows.new nD
    have kD : upd H D (.lst []) D = some (.lst []) := upd_same
    generalize upd H D (.lst []) = H2 at gD kD ⊢
    have Da : D ≠ a := fun e => by rw [e, t.met] at nD; cases nD
    have Db : D ≠ b := fun e => by
      obtain ⟨rows, hb, _⟩ := t.lots
      rw [e, hb] at nD
      cases nD
    have zl : z.cps.toList.length = z.length := cut_len z
    refine ⟨_, rfl, z, rfl, for_it walk_enumS (fun j σ H' => ∃ (v4 v5 : Option V) (M' : Met) (L' : List LotK) (ts : List Addr) (qs : List Tri), σ = [some (.ref x), some (.int ((n + 1 : Nat) : Int)), some (.str z), some (.ref D), v4, v5] ∧ More P w C U H H' x a b L M' L' ∧ (∀ e ∈ M', e ∈ M ∨ e.1.1 ≤ n) ∧ H' D = some (.lst (ts.map V.ref)) ∧ Paired (TriAt H') ts qs ∧ qs.length = j ∧
      (∀ (i : Nat) (q : Tri), qs[i]? = some q → z.cps.toList[i]? = some q.2.1) ∧ (∀ (i : Nat) (q : Tri), qs[i]? = some q → Rel L' n (z.cps.toList.take i) q.1) ∧ (∀ (i : Nat) (q : Tri), qs[i]? = some q → Rel L' n (z.cps.toList.drop (i + 1)) q.2.2))
      ⟨none, none, M, L, [], [], rfl, ⟨t.grows gD, hLM, fun _ _ e => e, But.of gD, kM⟩, fun e he => .inl he, kD, .nil, rfl, (fun i q h => by cases h), (fun i q h => by cases h), (fun i q h => by cases h)⟩ (fun _ _ _ _ _ => trivial) ?_ ?_⟩
    · rintro j y σ H3 H4 hj ⟨v4, v5, M3, L3, ts, qs, rfl, mo3, new3, kD3, hpt, ql, qc, q1, q2⟩ ⟨tp, _, _, rfl, ntp, rfl, e1, e2⟩
      obtain ⟨c, hc⟩ : ∃ c, z.cps.toList[j]? = some c := ⟨_, List.getElem?_eq_getElem hj⟩
      have e1' := (Option.some.inj e1).symm
      have e2 : z.cps.toList[j]?.map (fun c => V.str { cps := #[c] }) = some _ := e2
      rw [hc] at e2
      have e2' := (Option.some.inj e2).symm
      subst e1' e2'
      have g3 : Grows H3 (upd H3 tp (.tup [.int ((j : Nat) : Int), .str ⟨#[c]⟩])) := Grows.new ntp
      refine ⟨tp, _, rfl, .inl (.inl upd_same), rfl, _, _, rfl, _, _, rfl, rfl, ?_⟩
      generalize upd H3 tp (.tup [.int ((j : Nat) : Int), .str ⟨#[c]⟩]) = H4 at g3 ⊢
      have t4 := mo3.at_.grows g3
      have kD4 := g3 _ _ kD3
      have u1 := (cU _ hU j).1
      have u2 := (cU _ hU (j + 1)).2
      have w1 := cut_to z j
      have w2 := cut_from z (j + 1)
      have y1 : (cutS z none (some ((j : Nat) : Int))).length ≤ 40 := by rw [← cut_len, w1, List.length_take]; omega
      have y2 : (cutS z (some ((j + 1 : Nat) : Int)) none).length ≤ 40 := by rw [← cut_len, w2, List.length_drop]; omega
      obtain ⟨dx4, hx4⟩ := t4.obj
      refine ⟨_, rfl, .inl ⟨rfl, _, .inl (.inl kD4)⟩, _, rfl, x, dx4, _, rfl, hx4, tyf_no a b nN_ nN2_, _, rfl, _, _, rfl, rfl, _, rfl, _, rfl, _, rfl, z, rfl, by omega, x, a, b, M3, L3, n, cutS z none (some ((j : Nat) : Int)), U, (n1 _), hn, hm, t4, mo3.few, mo3.known, y1, by rw [w1]; exact u1, cU, lU, fun H5 M5 L5 i1 mo5 rel5 new5 => ?_⟩
      obtain ⟨dx5, hx5⟩ := mo5.at_.obj
      refine ⟨_, rfl, _, rfl, x, dx5, _, rfl, hx5, tyf_no a b nN_ nN2_, _, rfl, _, _, rfl, rfl, _, rfl, _, rfl, _, _, rfl, rfl, _, rfl, ?_⟩
      dsimp only [tNoPart]
      refine ⟨z, rfl, by omega, x, a, b, M5, L5, n, cutS z (some ((j + 1 : Nat) : Int)) none, U, (n1 _), hn, hm, mo5.at_, mo5.few, mo5.known, y2, by rw [w2]; exact u2, cU, lU, fun H6 M6 L6 i2 mo6 rel6 new6 => ?_⟩
      rw [w1] at rel5
      rw [w2] at rel6
      have but46 := mo5.but.trans mo6.but
      have kD6 := but46 D _ kD4 Da Db
      have hpt6 := tris_keep (t4.tups but46) (tris_keep (fun q zs e => g3 _ _ e) hpt)
      refine ⟨by show 3 ≤ sizeLine; decide, fun t0 nt0 => ?_⟩
      have gt : Grows H6 (upd H6 t0 (.tup [.int ((i1 : Nat) : Int), .str ⟨#[c]⟩, .int ((i2 : Nat) : Int)])) := Grows.new nt0
      have kt0 : TriAt (upd H6 t0 (.tup [.int ((i1 : Nat) : Int), .str ⟨#[c]⟩, .int ((i2 : Nat) : Int)])) t0 (i1, c, i2) := upd_same
      generalize upd H6 t0 (.tup [.int ((i1 : Nat) : Int), .str ⟨#[c]⟩, .int ((i2 : Nat) : Int)]) = H7 at gt kt0 ⊢
      have kD7 := gt _ _ kD6
      have t7 := mo6.at_.grows gt
      have tsl : ts.length = qs.length := paired_len hpt
      refine ⟨D, _, _, rfl, rfl, kD7, by rw [List.length_map]; omega, ?_⟩
      have tupK : ∀ q zs, H7 q = some (.tup zs) → upd H7 D (.lst (ts.map V.ref ++ [V.ref t0])) q = some (.tup zs) := fun q zs e => by rw [upd_ne (ne_of e kD7 (by intro z; cases z))]; exact e
      have ext36 : ∀ (k : Nat) (l : LotK), L3[k]? = some l → L6[k]? = some l := fun k l e => mo6.ext k l (mo5.ext k l e)
      have last : ∀ (i : Nat) (q : Tri), (qs ++ [(i1, c, i2)])[i]? = some q → qs[i]? = some q ∨ (i = j ∧ q = (i1, c, i2)) := fun i q hi => by
        by_cases h : i < qs.length
        · rw [List.getElem?_append_left h] at hi
          exact .inl hi
        · rw [List.getElem?_append_right (by omega)] at hi
          have h0 : i - qs.length = 0 := by
            have := (List.getElem?_eq_some_iff.mp hi).1
            simp only [List.length_singleton] at this
            omega
          rw [h0] at hi
          exact .inr ⟨by omega, (Option.some.inj hi).symm⟩
      refine ⟨_, _, M6, L6, ts ++ [t0], qs ++ [(i1, c, i2)], rfl, ⟨t7.lst kD7, mo6.few, fun k l e => ext36 k l (mo3.ext k l e), fun p o e pa pb => ?_, mo6.known⟩, fun e he => ?_, ?_, paired_snoc (tris_keep tupK (tris_keep (fun q zs e => gt _ _ e) hpt6)) (tupK _ _ kt0), by rw [List.length_append, ql]; rfl, fun i q hi => ?_, fun i q hi => ?_, fun i q hi => ?_⟩
      · have e7 := gt _ _ (but46 p o (g3 _ _ (mo3.but p o e pa pb)) pa pb)
        rw [upd_ne (ne_of_none e nD)]
        exact e7
      · rcases new6 e he with h | h
        · rcases new5 e h with h | h
          · exact new3 e h
          · exact .inr h
        · exact .inr h
      · rw [upd_same, List.map_append]
        rfl
      · rcases last i q hi with h | ⟨rfl, rfl⟩
        · exact qc i q h
        · exact hc
      · rcases last i q hi with h | ⟨rfl, rfl⟩
        · exact (q1 i q h).more ext36
        · exact rel5.more mo6.ext
      · rcases last i q hi with h | ⟨rfl, rfl⟩
        · exact (q2 i q h).more ext36
        · exact rel6
    · rintro σ H3 ⟨v4, v5, M3, L3, ts, qs, rfl, mo3, new3, kD3, hpt, ql, qc, q1, q2⟩
      exact ⟨_, rfl, q H3 M3 L3 D ts qs mo3 new3 nD kD3 hpt ql qc q1 q2⟩
end
end SWL
set_option Elab.async false
set_option linter.all false
set_option maxRecDepth 100000
set_option maxHeartbeats 16000000
namespace SWL
open PySem PySem.Spec PyProof.Rows L2 LamX
/-! the rows of the triples -/
def rows3 (ts : List Addr) (qs : List Tri) : List MRow := (ts.zip qs).map fun p => (p.1, kT p.2)
theorem rows3_refs {H : Hp} : ∀ {ts : List Addr} {qs : List Tri}, Paired (TriAt H) ts qs → (rows3 ts qs).map (fun p => V.ref p.1) = ts.map V.ref
  | _, _, .nil => rfl
  | t :: ts, q :: qs, .cons h r => by
    show V.ref t :: (rows3 ts qs).map (fun p => V.ref p.1) = _
    rw [rows3_refs r]
    rfl
theorem rows3_keys {H : Hp} : ∀ {ts : List Addr} {qs : List Tri}, Paired (TriAt H) ts qs → ∀ p ∈ rows3 ts qs, ∃ q ∈ qs, p.2 = kT q ∧ TriAt H p.1 q
  | _, _, .nil, p, hp => by cases hp
  | t :: ts, q :: qs, .cons h r, p, hp => by
    rcases List.mem_cons.mp (show p ∈ (t, kT q) :: rows3 ts qs from hp) with e | hp
    · rw [e]
      exact ⟨q, List.mem_cons_self, rfl, h⟩
    · obtain ⟨q', h1, h2⟩ := rows3_keys r p hp
      exact ⟨q', List.mem_cons_of_mem _ h1, h2⟩
theorem rows3_all {H : Hp} : ∀ {ts : List Addr} {qs : List Tri}, Paired (TriAt H) ts qs → ∀ q ∈ qs, ∃ p ∈ rows3 ts qs, p.2 = kT q
  | _, _, .nil, q, hq => by cases hq
  | t :: ts, q0 :: qs, .cons h r, q, hq => by
    rcases List.mem_cons.mp hq with rfl | hq
    · exact ⟨(t, kT q), List.mem_cons_self, rfl⟩
    · obtain ⟨p, h1, h2⟩ := rows3_all r q hq
      exact ⟨p, List.mem_cons_of_mem _ h1, h2⟩
theorem rows3_len {H : Hp} {ts : List Addr} {qs : List Tri} (h : Paired (TriAt H) ts qs) : (rows3 ts qs).length = qs.length := by
  unfold rows3
  rw [List.length_map, List.length_zip, paired_len h, Nat.min_self]
theorem tri_tup {H : Hp} {t : Addr} {q : Tri} (h : TriAt H t q) : H t = some (.tup ((kT q).map kV)) := h
/-- the triples of rows -/
theorem rows_tri {H : Hp} {qs : List Tri} : ∀ ys : List MRow, (∀ y ∈ ys, ∃ q ∈ qs, y.2 = kT q ∧ TriAt H y.1 q) → ∃ ps : List Tri, ys.map (·.2) = ps.map kT ∧ Paired (TriAt H) (ys.map (·.1)) ps ∧ ∀ p ∈ ps, p ∈ qs
  | [], _ => ⟨[], rfl, .nil, fun p hp => by cases hp⟩
  | y :: ys, h => by
    obtain ⟨q, hq, e, ht⟩ := h y List.mem_cons_self
    obtain ⟨ps, h1, h2, h3⟩ := rows_tri ys fun z hz => h z (List.mem_cons_of_mem _ hz)
    refine ⟨q :: ps, by rw [List.map_cons, List.map_cons, h1, e], .cons ht h2, fun p hp => ?_⟩
    rcases List.mem_cons.mp hp with rfl | hp
    · exact hq
    · exact h3 p hp
theorem alike_tri {L : List MRow} {qs : List Tri} (h : ∀ y ∈ L, ∃ q ∈ qs, y.2 = kT q) : PySem.W.AllAlike (L.map fun p => encT p.2) := fun d hd d' hd' => by
  obtain ⟨y, hy, rfl⟩ := List.mem_map.mp hd
  obtain ⟨y', hy', rfl⟩ := List.mem_map.mp hd'
  obtain ⟨q, _, e⟩ := h y hy
  obtain ⟨q', _, e'⟩ := h y' hy'
  rw [e, e']
  rfl
theorem pw_tri : ∀ {ys : List MRow} {ps : List Tri}, ys.map (·.2) = ps.map kT → ys.Pairwise (fun x y => PySem.W.dataLt (encT y.2) (encT x.2) = false) → (ys.map (·.2)).Nodup → ps.Pairwise Lt3
  | [], [], _, _, _ => .nil
  | [], _ :: _, h, _, _ => by cases h
  | _ :: _, [], h, _, _ => by cases h
  | y :: ys, p :: ps, h, pw, nd => by
    rw [List.map_cons, List.map_cons] at h
    obtain ⟨h1, h2⟩ := List.cons.inj h
    rw [List.map_cons] at nd
    obtain ⟨n1, n2⟩ := List.nodup_cons.mp nd
    obtain ⟨p1, p2⟩ := List.pairwise_cons.mp pw
    refine List.pairwise_cons.mpr ⟨fun q hq => ?_, pw_tri h2 p2 n2⟩
    have hm : kT q ∈ ys.map (·.2) := by rw [h2]; exact List.mem_map.mpr ⟨q, hq, rfl⟩
    obtain ⟨z, hz, ez⟩ := List.mem_map.mp hm
    have hp := p1 z hz
    rw [show z.2 = kT q from ez, show y.2 = kT p from h1, lt3_data] at hp
    refine lt3_tri (of_decide_eq_false hp) fun e => n1 ?_
    rw [show y.2 = kT p from h1, e]
    exact hm
/-- sorted(set(the triples)) -/
theorem go_sorted3 {K : PySem.W.Frag} {P : Program} {w : World} {H5 : Hp} {D : Addr} {ts : List Addr} {qs : List Tri} {Q : VK} (hpt : Paired (TriAt H5) ts qs) (few : (rows3 ts qs).length < 64) (kD5 : H5 D = some (.lst (ts.map V.ref)))
    (q : ∀ (H7 : Hp) (p2 : Addr) (ys : List MRow) (ps : List Tri), Grows H5 H7 → H7 p2 = some (.lst (ys.map fun y => V.ref y.1)) → ys.map (·.2) = ps.map kT → Paired (TriAt H7) (ys.map (·.1)) ps → ps.Pairwise Lt3 → (∀ x, x ∈ ps ↔ x ∈ qs) → Q (.ref p2) H7) :
    rSetM K P w [.ref D] H5 (fun y H6 => rSortM P w [y] H6 Q) := by
  have kin : keysIn H5 (rows3 ts qs) := fun p hp => by
    obtain ⟨q, _, e, h⟩ := rows3_keys hpt p hp
    rw [e]
    exact tri_tup h
  refine ⟨D, rows3 ts qs, rfl, by rw [rows3_refs hpt]; exact .inl (.inl kD5), kin, few, fun S Ls nS ea fewS => ?_⟩
  have gS : Grows H5 (upd H5 S (MsO P w S Ls)) := Grows.new nS
  have kS : upd H5 S (MsO P w S Ls) S = some (MsO P w S Ls) := upd_same
  generalize upd H5 S (MsO P w S Ls) = H6 at gS kS ⊢
  have kk : ∀ y ∈ Ls, ∃ q ∈ qs, y.2 = kT q ∧ TriAt H6 y.1 q := fun y hy => by
    obtain ⟨q, h1, h2, h3⟩ := rows3_keys hpt y (ea.sub y hy)
    exact ⟨q, h1, h2, gS _ _ h3⟩
  refine ⟨S, Ls, rfl, kS, fun p hp => gS _ _ (kin p (ea.sub p hp)), alike_tri fun y hy => (kk y hy).imp fun q h => ⟨h.1, h.2.1⟩, fun p hp => ?_, fun ys p2 perm pw np2 => ?_⟩
  · obtain ⟨q, _, e, _⟩ := kk p hp
    rw [e]
    unfold kT
    simp
  have gp2 : Grows H6 (upd H6 p2 (.lst (ys.map fun y => V.ref y.1))) := Grows.new np2
  have kp2 : upd H6 p2 (.lst (ys.map fun y => V.ref y.1)) p2 = some (.lst (ys.map fun y => V.ref y.1)) := upd_same
  generalize upd H6 p2 (.lst (ys.map fun y => V.ref y.1)) = H7 at gp2 kp2 ⊢
  obtain ⟨ps, hps, hpp, hsub⟩ := rows_tri (H := H7) ys fun y hy => by
    obtain ⟨q, h1, h2, h3⟩ := kk y (perm.mem_iff.mp hy)
    exact ⟨q, h1, h2, gp2 _ _ h3⟩
  have ndy : (ys.map (·.2)).Nodup := (perm.map (·.2)).nodup_iff.mpr ea.nd
  refine q H7 p2 ys ps (gS.trans gp2) kp2 hps hpp (pw_tri hps pw ndy) fun x => ⟨hsub x, fun hxq => ?_⟩
  obtain ⟨p, hp, e⟩ := rows3_all hpt x hxq
  have h1 : kT x ∈ ys.map (·.2) := by
    rw [(perm.map (·.2)).mem_iff, ← e]
    exact ea.all p hp
  rw [hps] at h1
  obtain ⟨y, hy, ey⟩ := List.mem_map.mp h1
  rw [← kT_inj ey]
  exact hy
/-- if lot not in by_lot: by_lot[lot] = len(by_lot) -/
theorem go_lotput {P : Program} {w : World} {td ty tl : TE} {σ : L2.St} {H : Hp} {D : Ends} {b T2 : Addr} {rows : List NRow} {key : NestedKey} (hd : ∀ Q : VK, Q (.ref b) H → td σ H Q) (ht : ∀ Q : VK, Q (.ref T2) H → ty σ H Q) (hl : ∀ Q : VK, Q (.int ((rows.length : Nat) : Int)) H → tl σ H Q)
    (hb : H b = some (NDO P w b rows)) (hk : KeysAt H rows) (nk : NkAt H (.ref T2) key) (dep : key.depth ≤ 8) (few : rows.length < sizeLine)
    (R : Hp → Prop) (fin : ∀ Hx, R Hx → D.nx σ Hx) (old : ∀ v, valN rows key = some v → R H) (new : valN rows key = none → R (upd H b (NDO P w b (rows ++ [(key, T2, .int ((rows.length : Nat) : Int))])))) :
    tIfS (tB (tNNotIn P w ty td)) (sNPut P w td ty tl) tNext D σ H := by
  refine ht _ (hd _ ⟨b, T2, rows, key, rfl, rfl, hb, hk, nk, dep, _, rfl, ?_⟩)
  cases e : valN rows key with
  | some v => exact if_neg_of Bool.false_ne_true (fin _ (old v e))
  | none =>
    refine if_pos_of rfl ?_
    exact hl _ (hd _ (ht _ ⟨b, T2, rows, key, rfl, rfl, hb, hk, nk, dep, few, e, fin _ (new e)⟩))
theorem valN_snoc {rows : List NRow} {k : NestedKey} {b : Addr} {v : V} (h : valN rows k = none) : valN (rows ++ [(k, b, v)]) k = some v := by
  unfold valN at *
  rw [List.find?_append]
  cases e : rows.find? (fun r => decide (r.1 = k)) with
  | some r => rw [e] at h; cases h
  | none => simp
section
variable {P : Program} {w : World} {K : PySem.W.Frag} {mg : Str → Option Value} {base : Heap}
theorem scNumber : FnScope ["self", "n", "word", "lot"] ["self", "n", "word"] (defScope sNumber) := ⟨rfl, rfl, rfl, by decide +kernel, rfl, by decide +kernel, by decide +kernel⟩
theorem ok_number {f fL C : Addr} {fd fdL : FuncData} {m : Nat} (F : L2.Fun K "number" "Types.number" sNumber f fd) (B : Blt mg) (T : TyC K mg C fL f) (GL : FnOk P w K mg base CX0 (2 * m) fL fdL ["self", "n", "word"] (spLotI P w C m)) (bL : Binds K fdL ["self", "n", "word"] []) :
    FnOk P w K mg base CX0 (2 * m + 1) f fd ["self", "n", "word"] (spNum P w C m) := by
  refine F.ok scNumber (fun vs H Q E h => ?_) (fun cdv A outer s H vs Q E hr h => ⟨_,
    pss_cons (ps_if (pt_cmpR op_eq (pv 1) pe_int (nomark _)) (pss_one (ps_ret pe_int)) pss_nil)
    (pss_cons (ps_if (pt_cmp (pc_dnotin (by have := hr.un; show (A.deeper _).units + 1 < _; omega) (pe_tup (pa_cons (pv 1) (pa_cons (pv 2) pa_nil))) (pe_fld (pv 0) rfl)) (by decide))
      (pss_cons (ps_set (i := 3) scNumber.nd rfl (Or.inl rfl) (pe_tup (pa_cons (pv 1) (pa_cons (pe_callTy call_tuple_of (by rfl) B.tuple (by decide +kernel) (pa_cons (pe_callB (cr_sortedM rfl (by have := hr.un; show (A.deeper _).units + 64 < _; omega)) (by rfl) B.sorted (by decide +kernel) (pa_cons (pe_callTy (cr_setM rfl (by have := hr.un; show (A.deeper _).units + 16 < _; omega)) (by rfl) B.set (by decide +kernel)
        (pa_cons (pe_meth (pv 0) T.cl T.mL GL hr bL .nil pass0 (pa_cons (pv 1) (pa_cons (pv 2) pa_nil))) pa_nil)) pa_nil)) pa_nil)) pa_nil))))
      (pss_cons (ps_if (pt_cmp (pc_nnotin (by have := hr.un; show (A.deeper _).units + 16 < _; omega) (pv 3) (pe_fld (pv 0) rfl)) (by decide)) (pss_one (ps_nput (by have := hr.un; show (A.deeper _).units + 16 < _; omega) (pe_fld (pv 0) rfl) (pv 3) (pe_callB cr_lenN (by rfl) B.len PySem.boot_len (pa_cons (pe_fld (pv 0) rfl) pa_nil)) rfl)) pss_nil)
      (pss_one (ps_dput (by have := hr.un; show (A.deeper _).units + 1 < _; omega) (pe_fld (pv 0) rfl) (pe_tup (pa_cons (pv 1) (pa_cons (pv 2) pa_nil))) (pe_nget (by have := hr.un; show (A.deeper _).units + 16 < _; omega) (pe_fld (pv 0) rfl) (pv 3) (fun _ _ => rfl)) rfl)))) pss_nil)
    (pss_one (ps_ret (pe_dget (by have := hr.un; show (A.deeper _).units + 1 < _; omega) (pe_fld (pv 0) rfl) (pe_tup (pa_cons (pv 1) (pa_cons (pv 2) pa_nil))) (fun _ _ => rfl))))), ?_⟩)
  · obtain ⟨x, a, b, M, L, n, z, U, rfl, _⟩ := h
    rfl
  · obtain ⟨x, a, b, M, L, n, z, U, rfl, hn, hm, t, hLM, kM, hz, hU, cU, lU, q⟩ := h
    have sz : sizeLine = 16777216 := sizeLine_eq
    refine ⟨_, rfl, rfl, _, rfl, ?_⟩
    by_cases h0 : n = 0
    · subst h0
      exact if_pos_of (decide_eq_true rfl) (q H M L 0 ⟨t, hLM, fun _ _ e => e, But.refl H a b, kM⟩ (.zero _) fun e he => .inl he)
    refine if_neg_of (by rw [decide_eq_false (fun e => h0 (by have := V.int.inj e; omega))]; decide) ?_
    obtain ⟨n, rfl⟩ : ∃ k, n = k + 1 := ⟨n - 1, by omega⟩
    obtain ⟨m, rfl⟩ : ∃ k, m = k + 1 := ⟨m - 1, by omega⟩
    obtain ⟨dx, hx⟩ := t.obj
    refine ⟨_, rfl, _, rfl, by show 2 ≤ sizeLine; decide, fun t1 nt1 => ?_⟩
    have g1 : Grows H (upd H t1 (.tup [.int ((n + 1 : Nat) : Int), .str z])) := Grows.new nt1
    have k1 : upd H t1 (.tup [.int ((n + 1 : Nat) : Int), .str z]) t1 = some (.tup ((keyV (n + 1, z)).map kV)) := upd_same
    generalize upd H t1 (.tup [.int ((n + 1 : Nat) : Int), .str z]) = H1 at g1 k1 ⊢
    refine ⟨_, rfl, x, C, dx, _, _, rfl, g1 _ _ hx, T.cl, T.nW, tyf_words a b, a, _, rfl, DGet.t (g1 _ _ t.met) k1, _, rfl, ?_⟩
    rcases val_kvs (n + 1, z) M with ⟨v0, no⟩ | ⟨i, v1, yes⟩
    · refine if_pos_of (by rw [v0]; rfl) ?_
      have zl : z.cps.toList.length = z.length := cut_len z
      refine ⟨_, rfl, _, rfl, x, dx, _, rfl, g1 _ _ hx, tyf_no a b nO_ nO2_, _, rfl, _, rfl, x, a, b, M, L, n, z, U, rfl, by omega, by omega, t.grows g1, hLM, kM, hz, hU, cU, lU, fun H5 M5 L5 D ts qs mo5 new5 nD kD5 hpt ql qc q1 q2 => ?_⟩
      have hx1 := g1 _ _ hx
      obtain ⟨dx5, hx5⟩ := mo5.at_.obj
      have g15 : ∀ c o, H c = some o → c ≠ a → c ≠ b → H5 c = some o := fun c o e ca cb => mo5.but c o (g1 _ _ e) ca cb
      have no5 : ∀ i, ((n + 1, z), i) ∉ M5 := fun i hi => by
        rcases new5 _ hi with h | h
        · exact no i h
        · exact absurd h (by show ¬ (n + 1 ≤ n); omega)
      have lenM := met_len mo5.at_.ndM mo5.known.all
      -- the set, sorted
      have few : (rows3 ts qs).length < 64 := by rw [rows3_len hpt]; omega
      dsimp only [tNil]
      refine go_sorted3 (K := K) (P := P) (w := w) hpt few kD5 fun H7 p2 ys ps g57 kp2 hps hpp hst hmem => ?_
      refine ⟨p2, _, rfl, .inl ⟨.inl (.inl kp2), fun T1 nT1 => ?_⟩⟩
      have gT1 : Grows H7 (upd H7 T1 (.tup (ys.map fun y => V.ref y.1))) := Grows.new nT1
      have kT1 : upd H7 T1 (.tup (ys.map fun y => V.ref y.1)) T1 = some (.tup (ys.map fun y => V.ref y.1)) := upd_same
      generalize upd H7 T1 (.tup (ys.map fun y => V.ref y.1)) = H8 at gT1 kT1 ⊢
      refine ⟨by show 2 ≤ sizeLine; decide, fun T2 nT2 => ?_⟩
      have gT2 : Grows H8 (upd H8 T2 (.tup [.int ((n + 1 : Nat) : Int), .ref T1])) := Grows.new nT2
      have kT2 : upd H8 T2 (.tup [.int ((n + 1 : Nat) : Int), .ref T1]) T2 = some (.tup [.int ((n + 1 : Nat) : Int), .ref T1]) := upd_same
      generalize upd H8 T2 (.tup [.int ((n + 1 : Nat) : Int), .ref T1]) = H9 at gT2 kT2 ⊢
      have g79 := gT1.trans gT2
      have g59 := g57.trans g79
      have eys : (ys.map fun y => V.ref y.1) = (ys.map (·.1)).map V.ref := by rw [List.map_map]; rfl
      rw [eys] at kT1
      have nk : NkAt H9 (.ref T2) (lotKey (n + 1, ps)) := .tup kT2 (.cons (.int _) (.cons (.tup (gT2 _ _ kT1) (tris_all (tris_keep (fun c zs e => g79 _ _ e) hpp))) .nil))
      have t9 := mo5.at_.grows g59
      have hx9 := g59 _ _ hx5
      obtain ⟨rows, hb9, hk9, hr1, hr2⟩ := t9.lots
      obtain ⟨ab, xa, xb⟩ := t9.ab
      have rl : rows.length = L5.length := by
        have := congrArg List.length hr1
        rw [List.length_map, List.length_map] at this
        exact this
      refine go_lotput (P := P) (w := w) (b := b) (T2 := T2) (rows := rows) (key := lotKey (n + 1, ps)) (fun Q h => ⟨_, rfl, x, C, dx5, _, _, rfl, hx9, T.cl, T.nL, tyf_lots a b, h⟩) (fun Q h => ⟨_, rfl, h⟩) (fun Q h => ⟨_, rfl, x, C, dx5, _, _, rfl, hx9, T.cl, T.nL, tyf_lots a b, b, rows, rfl, hb9, hk9, h⟩) hb9 hk9 nk (lotKey_depth _) (by have := mo5.few; omega)
        (fun Hx => ∃ (L6 : List LotK) (k : Nat) (rows6 : List NRow), TyAt P w C Hx x a b M5 L6 ∧ L6.length ≤ M5.length + 1 ∧ (∀ (k : Nat) (l : LotK), L5[k]? = some l → L6[k]? = some l) ∧ L6[k]? = some (n + 1, ps) ∧ But H9 Hx a b ∧ Hx b = some (NDO P w b rows6) ∧ KeysAt Hx rows6 ∧ NkAt Hx (.ref T2) (lotKey (n + 1, ps)) ∧ valN rows6 (lotKey (n + 1, ps)) = some (.int ((k : Nat) : Int))) ?_ (fun v hv => ?_) (fun hno => ?_)
      · rintro Hx ⟨L6, k, rows6, t6, hL6, ext6, hk, but6, hb6, hk6, nk6, hv6⟩
        obtain ⟨dx6, hx6⟩ := t6.obj
        -- by_word[n, word] = by_lot[lot]
        refine ⟨_, rfl, x, C, dx6, _, _, rfl, hx6, T.cl, T.nL, tyf_lots a b, _, rfl, b, T2, rows6, _, _, rfl, rfl, hb6, hk6, nk6, lotKey_depth _, hv6, ?_⟩
        refine ⟨_, rfl, x, C, dx6, _, _, rfl, hx6, T.cl, T.nW, tyf_words a b, _, rfl, _, rfl, by show 2 ≤ sizeLine; decide, fun T3 nT3 => ?_⟩
        have gT3 : Grows Hx (upd Hx T3 (.tup [.int ((n + 1 : Nat) : Int), .str z])) := Grows.new nT3
        have kT3 : upd Hx T3 (.tup [.int ((n + 1 : Nat) : Int), .str z]) T3 = some (.tup ((keyV (n + 1, z)).map kV)) := upd_same
        generalize upd Hx T3 (.tup [.int ((n + 1 : Nat) : Int), .str z]) = Hy at gT3 kT3 ⊢
        have t7 := t6.grows gT3
        refine ⟨a, _, rfl, DPut.t t7.met kT3 (by show (M5.map _).length < _; rw [List.length_map]; omega), ?_⟩
        have v5' : valV (kvs M5) (keyV (n + 1, z)) = none := by
          rcases val_kvs (n + 1, z) M5 with ⟨h, _⟩ | ⟨i, _, h⟩
          · exact h
          · exact absurd h (no5 i)
        have eput : putK (kvs M5) (keyV (n + 1, z)) (V.int ((k : Nat) : Int)) = kvs (M5 ++ [((n + 1, z), k)]) := by
          rw [putK_new _ v5']
          unfold kvs
          rw [List.map_append]
          rfl
        rw [eput]
        have rel : Rel L6 (n + 1) z.cps.toList k := .succ qs ps ql qc (fun i q hq => (q1 i q hq).more ext6) (fun i q hq => (q2 i q hq).more ext6) hst hmem hk
        obtain ⟨rows7, r71, r72, r73, r74⟩ := t7.lots
        have tupK : ∀ q zs, Hy q = some (.tup zs) → upd Hy a (.dT (kvs (M5 ++ [((n + 1, z), k)]))) q = some (.tup zs) := fun q zs e => by rw [upd_ne (ne_of e t7.met (by intro z; cases z))]; exact e
        have t8 : TyAt P w C (upd Hy a (.dT (kvs (M5 ++ [((n + 1, z), k)])))) x a b (M5 ++ [((n + 1, z), k)]) L6 := by
          refine ⟨⟨dx6, by rw [upd_ne xa]; exact gT3 _ _ hx6⟩, upd_same, ⟨rows7, by rw [upd_ne ab.symm]; exact r71, r72.keep tupK, r73, r74⟩, fun e he => ?_, ?_, t7.ndL⟩
          · rcases List.mem_append.mp he with h | h
            · exact t7.good e h
            · rw [List.mem_singleton.mp h]
              exact rel
          · rw [List.map_append]
            refine List.nodup_append.mpr ⟨t7.ndM, (by simp), fun e he e' he' c => ?_⟩
            rw [List.mem_singleton.mp he'] at c
            obtain ⟨⟨e1, i1⟩, h1, rfl⟩ := List.mem_map.mp he
            exact no5 i1 (by have c' : e1 = (n + 1, z) := c; rw [c'] at h1; exact h1)
        generalize hHz : upd Hy a (.dT (kvs (M5 ++ [((n + 1, z), k)]))) = Hz at t8 ⊢
        obtain ⟨dx8, hx8⟩ := t8.obj
        refine ⟨_, rfl, x, C, dx8, _, _, rfl, hx8, T.cl, T.nW, tyf_words a b, _, rfl, _, rfl, by show 2 ≤ sizeLine; decide, fun T4 nT4 => ?_⟩
        have gT4 : Grows Hz (upd Hz T4 (.tup [.int ((n + 1 : Nat) : Int), .str z])) := Grows.new nT4
        have kT4 : upd Hz T4 (.tup [.int ((n + 1 : Nat) : Int), .str z]) T4 = some (.tup ((keyV (n + 1, z)).map kV)) := upd_same
        generalize upd Hz T4 (.tup [.int ((n + 1 : Nat) : Int), .str z]) = Hw at gT4 kT4 ⊢
        have t9' := t8.grows gT4
        have dg := DGet.t t9'.met kT4
        have vv : valV (kvs (M5 ++ [((n + 1, z), k)])) (keyV (n + 1, z)) = some (V.int ((k : Nat) : Int)) := by
          rw [← eput, valV_put, if_pos rfl]
        rw [vv] at dg
        refine ⟨a, _, rfl, dg, q Hw _ L6 k ⟨t9', by rw [List.length_append]; exact hL6, fun k l e => ext6 k l (mo5.ext k l e), fun c o e ca cb => ?_, ⟨fun e he => ?_⟩⟩ rel fun e he => ?_⟩
        · have e2 := gT3 _ _ (but6 c o (g59 _ _ (mo5.but c o (g1 _ _ e) ca cb)) ca cb)
          refine gT4 _ _ ?_
          rw [← hHz, upd_ne ca]
          exact e2
        · rcases List.mem_append.mp he with h | h
          · exact mo5.known.all e h
          · rw [List.mem_singleton.mp h]
            exact ⟨by show n + 1 ≤ 8; omega, hU⟩
        · rcases List.mem_append.mp he with h | h
          · rcases new5 e h with h | h
            · exact .inl h
            · exact .inr (by omega)
          · rw [List.mem_singleton.mp h]
            exact .inr (Nat.le_refl _)
      · obtain ⟨i, r, hi, hk, hv'⟩ := valN_some hv
        have e1 : (rows.map (·.1))[i]? = some (lotKey (n + 1, ps)) := by rw [List.getElem?_map, hi, ← hk]; rfl
        rw [hr1, List.getElem?_map] at e1
        cases el : L5[i]? with
        | none => rw [el] at e1; cases e1
        | some l =>
          rw [el] at e1
          have := lotKey_inj (Option.some.inj e1)
          subst this
          exact ⟨L5, i, rows, t9, (by have := mo5.few; omega), (fun _ _ e => e), el, But.refl _ _ _, hb9, hk9, nk, by rw [hv, ← hv', hr2 i r hi]⟩
      · have nl : (n + 1, ps) ∉ L5 := fun hm => by
          have : lotKey (n + 1, ps) ∈ rows.map (·.1) := by rw [hr1]; exact List.mem_map.mpr ⟨_, hm, rfl⟩
          obtain ⟨r, hr, e⟩ := List.mem_map.mp this
          exact valN_none hno r hr e
        have tupK : ∀ q zs, H9 q = some (.tup zs) → ∀ o, upd H9 b o q = some (.tup zs) := fun q zs e o => by rw [upd_ne (ne_of e hb9 (by unfold NDO; intro z; cases z))]; exact e
        have ks6 : KeysAt (upd H9 b (NDO P w b (rows ++ [(lotKey (n + 1, ps), T2, .int ((rows.length : Nat) : Int))]))) (rows ++ [(lotKey (n + 1, ps), T2, .int ((rows.length : Nat) : Int))]) := fun r hr => by
          rcases List.mem_append.mp hr with h | h
          · exact ⟨NkAt.keep (fun q zs e => tupK q zs e _) _ (hk9 r h).1, (hk9 r h).2⟩
          · rw [List.mem_singleton.mp h]
            exact ⟨NkAt.keep (fun q zs e => tupK q zs e _) _ nk, lotKey_depth _⟩
        refine ⟨L5 ++ [(n + 1, ps)], L5.length, _, ⟨⟨dx5, by rw [upd_ne xb]; exact hx9⟩, by rw [upd_ne ab]; exact t9.met, ⟨_, upd_same, ks6, ?_, ?_⟩, fun e he => (t9.good e he).more ?_, t9.ndM, ?_⟩, (by rw [List.length_append]; show L5.length + 1 ≤ _; have := mo5.few; omega), ?_, ?_, ?_, upd_same, ks6, NkAt.keep (fun q zs e => tupK q zs e _) _ nk, by rw [valN_snoc hno, rl]⟩
        · rw [List.map_append, List.map_append, hr1]
          rfl
        · intro i r hi
          by_cases c : i < rows.length
          · rw [List.getElem?_append_left c] at hi
            exact hr2 i r hi
          · rw [List.getElem?_append_right (by omega)] at hi
            have c2 : i - rows.length = 0 := by
              have := (List.getElem?_eq_some_iff.mp hi).1
              simp only [List.length_singleton] at this
              omega
            rw [c2] at hi
            have e := Option.some.inj hi
            rw [← e]
            show V.int ((rows.length : Nat) : Int) = V.int ((i : Nat) : Int)
            rw [show i = rows.length by omega]
        · intro k l e
          rw [List.getElem?_append_left (List.getElem?_eq_some_iff.mp e).1]
          exact e
        · refine List.nodup_append.mpr ⟨t9.ndL, (by simp), fun e he e' he' c => ?_⟩
          rw [List.mem_singleton.mp he'] at c
          rw [c] at he
          exact nl he
        · intro k l e
          rw [List.getElem?_append_left (List.getElem?_eq_some_iff.mp e).1]
          exact e
        · rw [List.getElem?_append_right (Nat.le_refl _), Nat.sub_self]
          rfl
        · intro c o e ca cb
          rw [upd_ne cb]
          exact e
    · refine if_neg_of (by rw [v1]; exact Bool.false_ne_true) ?_
      refine ⟨_, rfl, x, C, dx, _, _, rfl, g1 _ _ hx, T.cl, T.nW, tyf_words a b, _, rfl, _, rfl, by show 2 ≤ sizeLine; decide, fun t2 nt2 => ?_⟩
      have g2 : Grows H1 (upd H1 t2 (.tup [.int ((n + 1 : Nat) : Int), .str z])) := Grows.new nt2
      have k2 : upd H1 t2 (.tup [.int ((n + 1 : Nat) : Int), .str z]) t2 = some (.tup ((keyV (n + 1, z)).map kV)) := upd_same
      generalize upd H1 t2 (.tup [.int ((n + 1 : Nat) : Int), .str z]) = H2 at g2 k2 ⊢
      have g12 := g1.trans g2
      have dg := DGet.t (g12 _ _ t.met) k2
      rw [v1] at dg
      exact ⟨a, _, rfl, dg, q H2 M L i ⟨t.grows g12, hLM, fun _ _ e => e, But.of g12, kM⟩ (t.good _ yes) fun e he => .inl he⟩
end
end SWL
set_option Elab.async false
set_option linter.all false
set_option maxRecDepth 100000
set_option maxHeartbeats 16000000
namespace SWL
open PySem PySem.Spec PyProof.Rows L2 LamX
noncomputable def sameB (n : Nat) (u v : Wl) : Bool := @decide (Same n u v) (Classical.propDecidable _)
theorem sameB_iff {n : Nat} {u v : Wl} : sameB n u v = true ↔ Same n u v := by
  unfold sameB
  exact @decide_eq_true_iff _ (Classical.propDecidable _)
theorem sameB_not {n : Nat} {u v : Wl} : sameB n u v = false ↔ ¬ Same n u v := by
  rw [← sameB_iff]
  simp
theorem sameB_symm (n : Nat) (u v : Wl) : sameB n u v = sameB n v u := by
  rw [Bool.eq_iff_iff, sameB_iff, sameB_iff]
  exact ⟨same_symm n, same_symm n⟩
theorem sameB_rev (n : Nat) (u v : Wl) : sameB n u.reverse v.reverse = sameB n u v := by
  rw [Bool.eq_iff_iff, sameB_iff, sameB_iff]
  exact same_rev
/-- are two words of one type -/
def spAre (P : Program) (w : World) (C : Addr) : Sp := fun vs H Q _ => ∃ (x a b : Addr) (M : Met) (L : List LotK) (n : Nat) (z1 z2 : Str) (U : List Wl), vs = [.ref x, .int ((n : Nat) : Int), .str z1, .str z2] ∧ n ≤ 8 ∧ TyAt P w C H x a b M L ∧ L.length ≤ M.length ∧ Known U M ∧ z1.length ≤ 40 ∧ z2.length ≤ 40 ∧ z1.cps.toList ∈ U ∧ z2.cps.toList ∈ U ∧ Cut U ∧ U.length ≤ 100000 ∧
  ∀ (H' : Hp) (M' : Met) (L' : List LotK), More P w C U H H' x a b L M' L' → Q (.bl (sameB n z1.cps.toList z2.cps.toList)) H'
def BadL (K : PySem.W.Frag) (H : Hp) (x : V) : Prop := NotStr K H x ∨ ∃ z, x = .str z ∧ z.length ≤ sizeLine ∧ okLetters z = false
def BadT (K : PySem.W.Frag) (H : Hp) (x : V) : Prop := NotNum K H x ∨ ∃ i, x = .int i ∧ ¬ (0 ≤ i ∧ i ≤ 8)
def BadW (K : PySem.W.Frag) (H : Hp) (ls : Str) (x : V) : Prop := NotStr K H x ∨ ∃ z, x = .str z ∧ z.length ≤ sizeLine ∧ okWord ls z 40 = false
theorem BadW.grows {K : PySem.W.Frag} {H H' : Hp} (g : Grows H H') {ls : Str} {x : V} (h : BadW K H ls x) : BadW K H' ls x := h.imp (fun h => h.grows g) id
theorem BadT.grows {K : PySem.W.Frag} {H H' : Hp} (g : Grows H H') {x : V} (h : BadT K H x) : BadT K H' x := h.imp (fun h => h.grows g) id
def spNeedN (K : PySem.W.Frag) (CM : Addr) : Sp := fun vs H Q E => ∃ x, vs = [x, .int 0, .int 8] ∧ ((BadT K H x ∧ E (.ref CM) none H) ∨ ∃ n : Nat, x = .int n ∧ n ≤ 8 ∧ Q .non H)
/-- two words that may be compared -/
def TwoW (K : PySem.W.Frag) (CW : Addr) (H : Hp) (ls : Str) (u v : V) (E : XK) (R : Str → Str → Prop) : Prop :=
  (BadW K H ls u ∧ ∀ H', Grows H H' → E (.ref CW) none H') ∨ ∃ z1, u = .str z1 ∧ z1.length ≤ 40 ∧ okWord ls z1 40 = true ∧ ((BadW K H ls v ∧ ∀ H', Grows H H' → E (.ref CW) none H') ∨ ∃ z2, v = .str z2 ∧ z2.length ≤ 40 ∧ okWord ls z2 40 = true ∧ R z1 z2)
def spSame (K : PySem.W.Frag) (CN CM CW : Addr) : Sp := fun vs H Q E => ∃ x y u v, vs = [x, y, u, v] ∧ ((BadL K H x ∧ ∀ H', Grows H H' → E (.ref CN) none H') ∨ ∃ ls, x = .str ls ∧ ls.length ≤ sizeLine ∧ okLetters ls = true ∧
  ((BadT K H y ∧ ∀ H', Grows H H' → E (.ref CM) none H') ∨ ∃ n : Nat, y = .int n ∧ n ≤ 8 ∧ TwoW K CW H ls u v E fun z1 z2 => ∀ H', Grows H H' → Q (.bl (sameB n z1.cps.toList z2.cps.toList)) H'))
def spLeast (K : PySem.W.Frag) (CN CW : Addr) : Sp := fun vs H Q E => ∃ x u v, vs = [x, u, v] ∧ ((BadL K H x ∧ ∀ H', Grows H H' → E (.ref CN) none H') ∨ ∃ ls, x = .str ls ∧ ls.length ≤ sizeLine ∧ okLetters ls = true ∧
  TwoW K CW H ls u v E fun z1 z2 => (z1 = z2 ∧ ∀ H', Grows H H' → Q .non H') ∨ (z1 ≠ z2 ∧ ∀ (H' : Hp) (f : Nat), Grows H H' → 1 ≤ f → f ≤ 7 → ¬ Same f z1.cps.toList z2.cps.toList → (∀ m, m < f → Same m z1.cps.toList z2.cps.toList) → Q (.int ((f : Nat) : Int)) H'))
section
variable {P : Program} {w : World} {K : PySem.W.Frag} {mg : Str → Option Value} {base : Heap}
theorem ok_both {fL fN C : Addr} {fdL fdN : FuncData} (FL : L2.Fun K "lot" "Types.lot" sLot fL fdL) (FN : L2.Fun K "number" "Types.number" sNumber fN fdN) (B : Blt mg) (T : TyC K mg C fL fN) (bL : Binds K fdL ["self", "n", "word"] []) (bN : Binds K fdN ["self", "n", "word"] []) :
    ∀ m, FnOk P w K mg base CX0 (2 * m) fL fdL ["self", "n", "word"] (spLotI P w C m) ∧ FnOk P w K mg base CX0 (2 * m + 1) fN fdN ["self", "n", "word"] (spNum P w C m)
  | 0 => by
    have GL : FnOk P w K mg base CX0 (2 * 0) fL fdL ["self", "n", "word"] (spLotI P w C 0) := ⟨fun _ _ _ _ h => h.elim, fun _ _ _ _ _ _ _ _ _ _ _ _ _ h => h.elim⟩
    exact ⟨GL, ok_number FN B T GL bL⟩
  | m + 1 => by
    obtain ⟨_, GN⟩ := ok_both FL FN B T bL bN m
    have GL := ok_lot FL B T GN bN
    exact ⟨GL, ok_number FN B T GL bL⟩
theorem scAlike : FnScope ["self", "n", "one", "other"] ["self", "n", "one", "other"] (defScope sAlike) := ⟨rfl, rfl, rfl, by decide +kernel, rfl, by decide +kernel, by decide +kernel⟩
theorem ok_are {f fL fN C : Addr} {fd fdN : FuncData} (F : L2.Fun K "are_alike" "Types.are_alike" sAlike f fd) (T : TyC K mg C fL fN) (GN : FnOk P w K mg base CX0 17 fN fdN ["self", "n", "word"] (spNum P w C 8)) (bN : Binds K fdN ["self", "n", "word"] []) : FnOk P w K mg base CX0 18 f fd ["self", "n", "one", "other"] (spAre P w C) := by
  refine F.ok scAlike (fun vs H Q E h => ?_) (fun cdv A outer s H vs Q E hr h => ⟨_,
    pss_one (ps_ret (pe_cmpR op_eq (pe_meth (pv 0) T.cl T.mN GN hr bN .nil pass0 (pa_cons (pv 1) (pa_cons (pv 2) pa_nil))) (pe_meth (pv 0) T.cl T.mN GN hr bN .nil pass0 (pa_cons (pv 1) (pa_cons (pv 3) pa_nil))) (nomark _))), ?_⟩)
  · obtain ⟨x, a, b, M, L, n, z1, z2, U, rfl, _⟩ := h
    rfl
  · obtain ⟨x, a, b, M, L, n, z1, z2, U, rfl, hn, t, hLM, kM, l1, l2, u1, u2, cU, lU, q⟩ := h
    obtain ⟨dx, hx⟩ := t.obj
    refine ⟨_, rfl, x, dx, _, rfl, hx, tyf_no a b nN_ nN2_, _, rfl, _, rfl, x, a, b, M, L, n, z1, U, rfl, hn, Nat.le_refl _, t, hLM, kM, l1, u1, cU, lU, fun H5 M5 L5 i mo5 rel5 _ => ?_⟩
    obtain ⟨dx5, hx5⟩ := mo5.at_.obj
    refine ⟨_, rfl, x, dx5, _, rfl, hx5, tyf_no a b nN_ nN2_, _, rfl, _, rfl, x, a, b, M5, L5, n, z2, U, rfl, hn, Nat.le_refl _, mo5.at_, mo5.few, mo5.known, l2, u2, cU, lU, fun H6 M6 L6 j mo6 rel6 _ => ⟨rfl, ?_⟩⟩
    have e := rel_iff mo6.at_.ndL (rel5.more mo6.ext) rel6
    have ev : decide (V.int ((i : Nat) : Int) = V.int ((j : Nat) : Int)) = sameB n z1.cps.toList z2.cps.toList := by
      rw [Bool.eq_iff_iff, decide_eq_true_eq, sameB_iff, ← e]
      exact ⟨fun h => by have := V.int.inj h; omega, fun h => by rw [h]⟩
    rw [ev]
    exact q H6 M6 L6 ⟨mo6.at_, mo6.few, fun k l h => mo6.ext k l (mo5.ext k l h), mo5.but.trans mo6.but, mo6.known⟩
theorem scNeedN : FnScope ["thing", "least", "most"] ["thing", "least", "most"] (defScope sNeedN) := ⟨rfl, rfl, rfl, by decide +kernel, rfl, by decide +kernel, by decide +kernel⟩
theorem ok_needN {f f1 CM CS : Addr} {fd fd1 : FuncData} (F : L2.Fun K "need_number" "need_number" sNeedN f fd) (B : Blt mg) (EM : ErrC K mg "NoNumber" CM CS)
    (G : FnOk P w K mg base CX0 1 f1 fd1 ["thing", "least", "most"] (spIsNum K)) (D : Def mg K "is_number" f1 fd1 ["thing", "least", "most"]) : FnOk P w K mg base (L2.CX P w) 2 f fd ["thing", "least", "most"] (spNeedN K CM) := by
  refine F.okX scNeedN (fun vs H Q E h => ?_) (fun cdv A outer s H vs Q E hr h => ⟨_,
    pss_one (ps_if (pt_not (pt_truth (pe_call G hr (by rfl) D.g D.k D.b .nil pass0 (pa_cons (pv 0) (pa_cons (pv 1) (pa_cons (pv 2) pa_nil)))) (by intro _; rfl)))
      (pss_one (ps_raise rfl (takes_of rfl rfl rfl rfl) (SkE.pmk_own1 PySem.F.excBase_ValueError EM.xC EM.gC EM.kC (raises_own EM.bC EM.tC) rfl
        (pe_op op_add_str (pe_op op_add_str (pe_op op_add_str pe_str (pe_callTy call_str_int (by rfl) B.str (by decide +kernel) (pa_cons (pv 1) pa_nil))) pe_str) (pe_callTy call_str_int (by rfl) B.str (by decide +kernel) (pa_cons (pv 2) pa_nil)))))) pss_nil), ?_⟩)
  · obtain ⟨x, rfl, _⟩ := h
    rfl
  · obtain ⟨x, rfl, h⟩ := h
    refine ⟨_, rfl, _, rfl, _, rfl, x, 0, 8, rfl, ?_⟩
    rcases h with ⟨n | ⟨i, rfl, hi⟩, e⟩ | ⟨n, rfl, hn, q⟩
    · exact .inr ⟨n, false, rfl, if_pos_of (by decide) ⟨_, rfl, 0, rfl, by decide, _, _, rfl, rfl, by decide +kernel, _, _, rfl, rfl, by decide +kernel, _, rfl, 8, rfl, by decide, _, _, rfl, rfl, by decide +kernel, e⟩⟩
    · exact .inl ⟨i, rfl, _, rfl, if_pos_of (by rw [decide_eq_false hi]; decide) ⟨_, rfl, 0, rfl, by decide, _, _, rfl, rfl, by decide +kernel, _, _, rfl, rfl, by decide +kernel, _, rfl, 8, rfl, by decide, _, _, rfl, rfl, by decide +kernel, e⟩⟩
    · exact .inl ⟨(n : Nat), rfl, _, rfl, if_neg_of (by rw [decide_eq_true ⟨by omega, by omega⟩]; decide) q⟩
end
end SWL
set_option Elab.async false
set_option linter.all false
set_option maxRecDepth 100000
set_option maxHeartbeats 16000000
namespace SWL
open PySem PySem.Spec PyProof.Rows L2 LamX
/-- two by place, one by name -/
def kw3 {α : Type} : List α → List α → List α
  | [a, b], [c] => [a, b, c]
  | _, _ => []
/-- a new keeper -/
theorem go_new {P : Program} {w : World} {C : Addr} {σ : L2.St} {H : Hp} {Q : VK} (q : ∀ (H4 : Hp) (x a b : Addr), TyAt P w C H4 x a b [] [] → H a = none → H b = none → H x = none → Grows H H4 → Q (.ref x) H4) : tMake C (spInit P w C) [] E0 tNil σ H Q := by
  intro x dx nx ndx nex
  refine ⟨x, dx, rfl, upd_same, fun H4 a b t4 ax bx na nb k4 => ⟨rfl, ?_⟩⟩
  have g4 : Grows H H4 := fun c o e => by
    have c1 := ne_of_none e nx
    have c2 := ne_of_none e ndx
    refine k4 c o c1 ?_
    rw [upd_ne c1, upd_ne c2]
    exact e
  have free : ∀ c, c ≠ x → upd (upd H dx (.own x)) x (.ins C dx []) c = none → H c = none := fun c cx e => by
    cases eh : H c with
    | none => rfl
    | some o =>
      rw [upd_ne cx, upd_ne (ne_of_none eh ndx), eh] at e
      cases e
  exact q H4 x a b t4 (free a ax na) (free b bx nb) nx g4
theorem two_facts {z1 z2 : Str} (h1 : z1.length ≤ 40) (h2 : z2.length ≤ 40) : ∃ U : List Wl, Cut U ∧ U.length ≤ 100000 ∧ z1.cps.toList ∈ U ∧ z2.cps.toList ∈ U := by
  refine ⟨facts1 z1.cps.toList ++ facts1 z2.cps.toList, cut_app (facts_cut _) (facts_cut _), ?_, List.mem_append_left _ (self_facts _), List.mem_append_right _ (self_facts _)⟩
  rw [List.length_append, facts_len, facts_len, cut_len, cut_len]
  have l1 : (z1.length + 1) * (z1.length + 1) ≤ 41 * 41 := Nat.mul_le_mul (by omega) (by omega)
  have l2 : (z2.length + 1) * (z2.length + 1) ≤ 41 * 41 := Nat.mul_le_mul (by omega) (by omega)
  omega
section
variable {P : Program} {w : World} {K : PySem.W.Frag} {mg : Str → Option Value} {base : Heap}
theorem aO_ : ¬ (("are_alike" : Str) = "by_lot") := by decide +kernel
theorem aO2_ : ¬ (("are_alike" : Str) = "by_word") := by decide +kernel
end
end SWL
set_option Elab.async false
set_option linter.all false
set_option maxRecDepth 100000
set_option maxHeartbeats 4000000
namespace SWL
open PySem PySem.Spec PyProof.Rows L2 LamX
/-! types as nested tuples -/
def triN (a : NestedKey) (c : Nat) (b : NestedKey) : NestedKey := .tup [a, .text (sg c), b]
theorem triN_inj {a b a' b' : NestedKey} {c c' : Nat} (h : triN a c b = triN a' c' b') : a = a' ∧ c = c' ∧ b = b' := by
  have h := NestedKey.tup.inj h
  simp only [List.cons.injEq, NestedKey.text.injEq, and_true] at h
  exact ⟨h.1, sg_inj h.2.1, h.2.2⟩
/-- the triples of the first j places -/
def trisF (f : Wl → NestedKey) (w : Wl) (j : Nat) : List NestedKey := (List.range j).map fun i => triN (f (w.take i)) (w.getD i 0) (f (w.drop (i + 1)))
def tyN : Nat → Wl → NestedKey
  | 0 => fun _ => .tup []
  | n + 1 => fun w => .tup (sortN (firstsN (trisF (tyN n) w w.length)))
theorem trisF_succ (f : Wl → NestedKey) {w : Wl} {j c : Nat} (h : w[j]? = some c) : trisF f w (j + 1) = trisF f w j ++ [triN (f (w.take j)) c (f (w.drop (j + 1)))] := by
  unfold trisF
  rw [List.range_succ, List.map_append]
  simp [List.getD, h]
theorem trisF_mem {f : Wl → NestedKey} {w : Wl} {x : NestedKey} : x ∈ trisF f w w.length ↔ ∃ i c, w[i]? = some c ∧ x = triN (f (w.take i)) c (f (w.drop (i + 1))) := by
  unfold trisF
  rw [List.mem_map]
  constructor
  · rintro ⟨i, hi, rfl⟩
    have hi' := List.mem_range.mp hi
    refine ⟨i, w[i], List.getElem?_eq_getElem hi', ?_⟩
    simp [List.getD, List.getElem?_eq_getElem hi']
  · rintro ⟨i, c, hc, rfl⟩
    refine ⟨i, List.mem_range.mpr (List.getElem?_eq_some_iff.mp hc).1, ?_⟩
    simp [List.getD, hc]
theorem trisF_sub {f : Wl → NestedKey} {w : Wl} {j : Nat} (hj : j ≤ w.length) {x : NestedKey} (h : x ∈ trisF f w j) : x ∈ trisF f w w.length := by
  unfold trisF at h ⊢
  obtain ⟨i, hi, rfl⟩ := List.mem_map.mp h
  exact List.mem_map.mpr ⟨i, List.mem_range.mpr (Nat.lt_of_lt_of_le (List.mem_range.mp hi) hj), rfl⟩
def IsTy (n : Nat) (k : NestedKey) : Prop := ∃ w, k = tyN n w
def IsTri (n : Nat) (k : NestedKey) : Prop := ∃ a c b, k = triN a c b ∧ IsTy n a ∧ IsTy n b
theorem tri_of {n : Nat} {w : Wl} {x : NestedKey} (h : x ∈ trisF (tyN n) w w.length) : IsTri n x := by
  obtain ⟨i, c, _, rfl⟩ := trisF_mem.mp h
  exact ⟨_, c, _, rfl, ⟨_, rfl⟩, ⟨_, rfl⟩⟩
theorem alike_datas : ∀ (ks ls : List NestedKey), (∀ x ∈ ks, ∀ y ∈ ls, PySem.W.alike x.data y.data = true) → PySem.W.alikeAll (NestedKey.datas ks) (NestedKey.datas ls) = true
  | [], [], _ => rfl
  | [], _ :: _, _ => rfl
  | _ :: _, [], _ => rfl
  | k :: ks, l :: ls, h => by
    show PySem.W.alikeAll (k.data :: NestedKey.datas ks) (l.data :: NestedKey.datas ls) = true
    rw [PySem.W.alikeAll, h k List.mem_cons_self l List.mem_cons_self, alike_datas ks ls fun x hx y hy => h x (List.mem_cons_of_mem _ hx) y (List.mem_cons_of_mem _ hy)]
    rfl
theorem alike_tup (ks ls : List NestedKey) : PySem.W.alike (NestedKey.tup ks).data (NestedKey.tup ls).data = PySem.W.alikeAll (NestedKey.datas ks) (NestedKey.datas ls) := by
  show PySem.W.alike (.tuple _) (.tuple _) = _
  rw [PySem.W.alike]
theorem alike_tri' {a b a' b' : NestedKey} {c c' : Nat} (h1 : PySem.W.alike a.data a'.data = true) (h2 : PySem.W.alike b.data b'.data = true) : PySem.W.alike (triN a c b).data (triN a' c' b').data = true := by
  unfold triN
  rw [alike_tup]
  show PySem.W.alikeAll [a.data, .str (sg c), b.data] [a'.data, .str (sg c'), b'.data] = true
  rw [PySem.W.alikeAll, PySem.W.alikeAll, PySem.W.alikeAll, h1, h2]
  rfl
theorem alike_ty : ∀ (n : Nat) {a b : NestedKey}, IsTy n a → IsTy n b → PySem.W.alike a.data b.data = true
  | 0, _, _, ⟨_, rfl⟩, ⟨_, rfl⟩ => rfl
  | n + 1, _, _, ⟨u, rfl⟩, ⟨v, rfl⟩ => by
    show PySem.W.alike (NestedKey.tup _).data (NestedKey.tup _).data = true
    rw [alike_tup]
    refine alike_datas _ _ fun x hx y hy => ?_
    obtain ⟨a, c, b, rfl, h1, h2⟩ := tri_of ((firstsN_mem _).mp (sortN_mem.mp hx))
    obtain ⟨a', c', b', rfl, h1', h2'⟩ := tri_of ((firstsN_mem _).mp (sortN_mem.mp hy))
    exact alike_tri' (alike_ty n h1 h1') (alike_ty n h2 h2')
theorem alike_tris {n : Nat} {x y : NestedKey} (h : IsTri n x) (k : IsTri n y) : PySem.W.alike x.data y.data = true := by
  obtain ⟨a, c, b, rfl, h1, h2⟩ := h
  obtain ⟨a', c', b', rfl, h1', h2'⟩ := k
  exact alike_tri' (alike_ty n h1 h1') (alike_ty n h2 h2')
theorem depthAll_le {m : Nat} : ∀ {ks : List NestedKey}, (∀ k ∈ ks, k.depth ≤ m) → NestedKey.depthAll ks ≤ m
  | [], _ => Nat.zero_le _
  | k :: ks, h => by
    show max k.depth (NestedKey.depthAll ks) ≤ m
    have h1 := h k List.mem_cons_self
    have h2 := depthAll_le (ks := ks) fun x hx => h x (List.mem_cons_of_mem _ hx)
    omega
theorem tri_depth {a b : NestedKey} {c m : Nat} (h1 : a.depth ≤ m) (h2 : b.depth ≤ m) : (triN a c b).depth ≤ m + 1 := by
  show max a.depth (max 0 (max b.depth 0)) + 1 ≤ m + 1
  omega
theorem ty_depth : ∀ (n : Nat) {k : NestedKey}, IsTy n k → k.depth ≤ 2 * n + 1
  | 0, _, ⟨_, rfl⟩ => Nat.le_refl _
  | n + 1, _, ⟨w, rfl⟩ => by
    show NestedKey.depthAll _ + 1 ≤ _
    have : NestedKey.depthAll (sortN (firstsN (trisF (tyN n) w w.length))) ≤ 2 * n + 1 + 1 := depthAll_le fun x hx => by
      obtain ⟨a, c, b, rfl, h1, h2⟩ := tri_of ((firstsN_mem _).mp (sortN_mem.mp hx))
      exact tri_depth (ty_depth n h1) (ty_depth n h2)
    omega
theorem isTri_depth {n : Nat} {x : NestedKey} (h : IsTri n x) : x.depth ≤ 2 * n + 2 := by
  obtain ⟨a, c, b, rfl, h1, h2⟩ := h
  exact tri_depth (ty_depth n h1) (ty_depth n h2)
/-- types are one just where the words are so -/
theorem tyN_same : ∀ (n : Nat) (u v : Wl), tyN n u = tyN n v ↔ Same n u v
  | 0, _, _ => ⟨fun _ => True.intro, fun _ => rfl⟩
  | n + 1, u, v => by
    have ih := tyN_same n
    constructor
    · intro h
      have h := NestedKey.tup.inj h
      have mem : ∀ x, x ∈ trisF (tyN n) u u.length ↔ x ∈ trisF (tyN n) v v.length := fun x => by
        rw [← firstsN_mem (trisF (tyN n) u u.length), ← firstsN_mem (trisF (tyN n) v v.length), ← sortN_mem (ks := firstsN (trisF (tyN n) u u.length)), ← sortN_mem (ks := firstsN (trisF (tyN n) v v.length)), h]
      refine ⟨fun i c hi => ?_, fun j c hj => ?_⟩
      · obtain ⟨j, c', hj, e⟩ := trisF_mem.mp ((mem _).mp (trisF_mem.mpr ⟨i, c, hi, rfl⟩))
        obtain ⟨e1, e2, e3⟩ := triN_inj e
        exact ⟨j, by rw [e2]; exact hj, (ih _ _).mp e1, (ih _ _).mp e3⟩
      · obtain ⟨i, c', hi, e⟩ := trisF_mem.mp ((mem _).mpr (trisF_mem.mpr ⟨j, c, hj, rfl⟩))
        obtain ⟨e1, e2, e3⟩ := triN_inj e
        exact ⟨i, by rw [e2]; exact hi, (ih _ _).mp e1.symm, (ih _ _).mp e3.symm⟩
    · rintro ⟨h1, h2⟩
      show NestedKey.tup _ = NestedKey.tup _
      congr 1
      have al : ∀ w : Wl, ∀ x ∈ firstsN (trisF (tyN n) w w.length), ∀ y ∈ firstsN (trisF (tyN n) w w.length), PySem.W.alike x.data y.data = true := fun w x hx y hy => alike_tris (tri_of ((firstsN_mem _).mp hx)) (tri_of ((firstsN_mem _).mp hy))
      refine strict_eq ltN_asym (sortN_rise (al u) (firstsN_nd _)) (sortN_rise (al v) (firstsN_nd _)) fun x => ?_
      rw [sortN_mem, sortN_mem, firstsN_mem, firstsN_mem, trisF_mem, trisF_mem]
      constructor
      · rintro ⟨i, c, hi, rfl⟩
        obtain ⟨j, hj, e1, e2⟩ := h1 i c hi
        exact ⟨j, c, hj, by rw [(ih _ _).mpr e1, (ih _ _).mpr e2]⟩
      · rintro ⟨j, c, hj, rfl⟩
        obtain ⟨i, hi, e1, e2⟩ := h2 j c hj
        exact ⟨i, c, hi, by rw [(ih _ _).mpr e1, (ih _ _).mpr e2]⟩
/-! types are plain, small data -/
structure Fit (m : Nat) (k : NestedKey) : Prop where
  can : k.data.canLay0 = true
  short : k.data.intsShort 13 = true
  show_ : k.data.showable = true
  nd : k.data.hasDict = false
  wt : k.data.weight ≤ m
theorem fit_datas {m : Nat} : ∀ {ks : List NestedKey}, (∀ k ∈ ks, Fit m k) → PyData.canLayAll0 (NestedKey.datas ks) = true ∧ PyData.intsShortAll 13 (NestedKey.datas ks) = true ∧ PyData.showableAll (NestedKey.datas ks) = true ∧ PyData.hasDictAll (NestedKey.datas ks) = false ∧ PyData.weightAll (NestedKey.datas ks) ≤ ks.length * (m + 1)
  | [], _ => ⟨rfl, rfl, rfl, rfl, by simp [NestedKey.datas, PyData.weightAll]⟩
  | k :: ks, h => by
    obtain ⟨a1, a2, a3, a4, a5⟩ := h k List.mem_cons_self
    obtain ⟨b1, b2, b3, b4, b5⟩ := fit_datas (ks := ks) fun x hx => h x (List.mem_cons_of_mem _ hx)
    show PyData.canLayAll0 (k.data :: NestedKey.datas ks) = true ∧ PyData.intsShortAll 13 (k.data :: NestedKey.datas ks) = true ∧ PyData.showableAll (k.data :: NestedKey.datas ks) = true ∧ PyData.hasDictAll (k.data :: NestedKey.datas ks) = false ∧ PyData.weightAll (k.data :: NestedKey.datas ks) ≤ (k :: ks).length * (m + 1)
    refine ⟨?_, ?_, ?_, ?_, ?_⟩
    · rw [PyData.canLayAll0, a1, b1]; rfl
    · rw [PyData.intsShortAll, a2, b2]; rfl
    · rw [PyData.showableAll, a3, b3]; rfl
    · rw [PyData.hasDictAll, a4, b4]; rfl
    · rw [PyData.weightAll, List.length_cons, Nat.succ_mul]
      omega
theorem fit_tup {m l : Nat} {ks : List NestedKey} (h : ∀ k ∈ ks, Fit m k) (hl : ks.length ≤ l) : Fit (l * (m + 1)) (.tup ks) := by
  obtain ⟨h1, h2, h3, h4, h5⟩ := fit_datas h
  refine ⟨h1, h2, h3, h4, ?_⟩
  show PyData.weightAll _ ≤ _
  exact Nat.le_trans h5 (Nat.mul_le_mul_right _ hl)
theorem fit_sg {c m : Nat} (h : c < 0x110000) (hm : 1 ≤ m) : Fit m (.text (sg c)) := by
  refine ⟨?_, rfl, rfl, rfl, ?_⟩
  · show PyData.canLay0 (.str (sg c)) = true
    show PyData.strOk (sg c) = true
    unfold PyData.strOk sg
    simp [h]
  · show PyData.weight (.str (sg c)) ≤ m
    rw [PyData.weight]
    exact hm
theorem Fit.le {m l : Nat} {k : NestedKey} (h : Fit m k) (hl : m ≤ l) : Fit l k := ⟨h.can, h.short, h.show_, h.nd, Nat.le_trans h.wt hl⟩
theorem mem_take_of {w : Wl} {i c : Nat} (h : c ∈ w.take i) : c ∈ w := List.mem_of_mem_take h
/-- the bound of a type's weight -/
def wtN : Nat → Nat
  | 0 => 1
  | n + 1 => 7 * (3 * (wtN n + 1) + 1)
theorem wtN_pos : ∀ n, 1 ≤ wtN n
  | 0 => Nat.le_refl _
  | n + 1 => by
    show 1 ≤ 7 * (3 * (wtN n + 1) + 1)
    omega
theorem fit_ty : ∀ (n : Nat) {w : Wl}, w.length ≤ 7 → (∀ c ∈ w, c < 0x110000) → Fit (wtN n) (tyN n w)
  | 0, _, _, _ => ⟨rfl, rfl, rfl, rfl, by show PyData.weight (.tuple []) ≤ 1; rw [PyData.weight, PyData.weightAll]; omega⟩
  | n + 1, w, hl, hc => by
    refine fit_tup (m := 3 * (wtN n + 1)) (l := 7) (fun k hk => ?_) ?_
    · obtain ⟨i, c, hi, rfl⟩ := trisF_mem.mp ((firstsN_mem _).mp (sortN_mem.mp hk))
      refine fit_tup (l := 3) (fun x hx => ?_) (by simp)
      simp only [List.mem_cons, List.not_mem_nil, or_false] at hx
      rcases hx with rfl | rfl | rfl
      · exact fit_ty n (by rw [List.length_take]; omega) fun d hd => hc d (List.mem_of_mem_take hd)
      · exact fit_sg (hc c (List.mem_of_getElem? hi)) (wtN_pos n)
      · exact fit_ty n (by rw [List.length_drop]; omega) fun d hd => hc d (List.mem_of_mem_drop hd)
    · have h1 := firstsN_len (trisF (tyN n) w w.length)
      have h2 : (trisF (tyN n) w w.length).length = w.length := by unfold trisF; rw [List.length_map, List.length_range]
      unfold sortN
      rw [List.length_mergeSort]
      omega
theorem good_ty {n : Nat} {w : Wl} (hn : n ≤ 3) (hl : w.length ≤ 7) (hc : ∀ c ∈ w, c < 0x110000) : GoodD (tyN n w).data := by
  have f := fit_ty n hl hc
  have d : (tyN n w).data.depth ≤ 7 := by
    rw [data_depth]
    have := ty_depth n ⟨w, rfl⟩
    omega
  refine ⟨?_, by omega, f.short, f.show_, f.nd⟩
  have wt : (tyN n w).data.weight ≤ 2 ^ 20 := by
    refine Nat.le_trans f.wt ?_
    rcases (by omega : n = 0 ∨ n = 1 ∨ n = 2 ∨ n = 3) with rfl | rfl | rfl | rfl <;> decide
  show (PyData.canLay0 _ && decide (PyData.depth _ ≤ 64) && decide (PyData.weight _ ≤ 2 ^ 20)) = true
  rw [f.can, decide_eq_true wt, decide_eq_true (show (tyN n w).data.depth ≤ 64 by omega)]
  rfl
end SWL
set_option Elab.async false
set_option linter.all false
set_option maxRecDepth 100000
set_option maxHeartbeats 16000000
namespace SWL
open PySem PySem.Spec PyProof.Rows L2 LamX
/-! what the recursion on types keeps, and what comes of it -/
abbrev KT := List ((Nat × Str) × Addr)
def kvT (T : KT) : List (List Key × V) := T.map fun e => (keyV e.1, .ref e.2)
theorem val_kvT (e : Nat × Str) : ∀ T : KT, (valV (kvT T) (keyV e) = none ∧ ∀ i, (e, i) ∉ T) ∨ ∃ i : Addr, valV (kvT T) (keyV e) = some (.ref i) ∧ (e, i) ∈ T
  | [] => .inl ⟨rfl, fun i h => by cases h⟩
  | (e', i') :: T => by
    have ih := val_kvT e T
    by_cases c : e' = e
    · subst c
      exact .inr ⟨i', valV_pos rfl, List.mem_cons_self⟩
    · have cn : ¬ keyV e' = keyV e := fun z => c (keyV_inj z)
      have ev : valV (kvT ((e', i') :: T)) (keyV e) = valV (kvT T) (keyV e) := valV_neg cn
      rw [ev]
      rcases ih with ⟨h1, h2⟩ | ⟨i, h1, h2⟩
      · refine .inl ⟨h1, fun i h => ?_⟩
        rcases List.mem_cons.mp h with z | z
        · exact c (Prod.mk.inj z).1.symm
        · exact h2 i z
      · exact .inr ⟨i, h1, List.mem_cons_of_mem _ h2⟩
structure KnT (U : List Wl) (H : Hp) (k : Addr) (T : KT) : Prop where
  at_ : H k = some (.dT (kvT T))
  good : ∀ e ∈ T, NkAt H (.ref e.2) (tyN e.1.1 e.1.2.cps.toList)
  nd : (T.map (·.1)).Nodup
  all : ∀ e ∈ T, e.1.1 ≤ 8 ∧ e.1.2.cps.toList ∈ U
theorem KnT.tups {U : List Wl} {H H' : Hp} {k : Addr} {T : KT} (t : KnT U H k T) (b : But H H' k k) : ∀ c xs, H c = some (.tup xs) → H' c = some (.tup xs) := fun c xs e => b c _ e (ne_of e t.at_ (by intro z; cases z)) (ne_of e t.at_ (by intro z; cases z))
theorem KnT.grows {U : List Wl} {H H' : Hp} {k : Addr} {T : KT} (g : Grows H H') (t : KnT U H k T) : KnT U H' k T := ⟨g _ _ t.at_, fun e he => NkAt.keep (fun b xs h => g _ _ h) _ (t.good e he), t.nd, t.all⟩
theorem KnT.off {U : List Wl} {H : Hp} {k D : Addr} {o o' : HO} {T : KT} (t : KnT U H k T) (h : H D = some o) (ht : ∀ xs, o ≠ .tup xs) (hd : ∀ xs, o ≠ .dT xs) : KnT U (upd H D o') k T := by
  refine ⟨by rw [upd_ne (ne_of t.at_ h (by intro z; exact hd _ z.symm))]; exact t.at_, fun e he => NkAt.keep (fun b xs hb => ?_) _ (t.good e he), t.nd, t.all⟩
  rw [upd_ne (ne_of hb h (by intro z; exact ht _ z.symm))]
  exact hb
theorem KnT.len {U : List Wl} {H : Hp} {k : Addr} {T : KT} (t : KnT U H k T) (lU : U.length ≤ 100000) : T.length ≤ 900000 := by
  have e : ((T.map fun e => (e.1, 0) : Met).map (·.1)) = T.map (·.1) := by rw [List.map_map]; rfl
  have := met_len (M := T.map fun e => (e.1, 0)) (U := U) (by rw [e]; exact t.nd) fun e he => by
    obtain ⟨e0, h0, rfl⟩ := List.mem_map.mp he
    exact t.all e0 h0
  rw [List.length_map] at this
  omega
theorem KnT.put {U : List Wl} {H : Hp} {k b : Addr} {T : KT} {n : Nat} {z : Str} (t : KnT U H k T) (no : ∀ i, ((n, z), i) ∉ T) (nk : NkAt H (.ref b) (tyN n z.cps.toList)) (hn : n ≤ 8) (hz : z.cps.toList ∈ U) :
    putK (kvT T) (keyV (n, z)) (V.ref b) = kvT (T ++ [((n, z), b)]) ∧ KnT U (upd H k (.dT (kvT (T ++ [((n, z), b)])))) k (T ++ [((n, z), b)]) := by
  have v0 : valV (kvT T) (keyV (n, z)) = none := by
    rcases val_kvT (n, z) T with ⟨h, _⟩ | ⟨i, _, h⟩
    · exact h
    · exact absurd h (no i)
  refine ⟨?_, upd_same, fun e he => ?_, ?_, fun e he => ?_⟩
  · rw [putK_new _ v0]
    unfold kvT
    rw [List.map_append]
    rfl
  · refine NkAt.keep (H := H) (fun c xs h => by rw [upd_ne (ne_of h t.at_ (by intro z; cases z))]; exact h) _ ?_
    rcases List.mem_append.mp he with h | h
    · exact t.good e h
    · rw [List.mem_singleton.mp h]
      exact nk
  · rw [List.map_append]
    refine List.nodup_append.mpr ⟨t.nd, (by simp), fun e he e' he' c => ?_⟩
    rw [List.mem_singleton.mp he'] at c
    obtain ⟨⟨e1, i1⟩, h1, rfl⟩ := List.mem_map.mp he
    exact no i1 (by have c' : e1 = (n, z) := c; rw [c'] at h1; exact h1)
  · rcases List.mem_append.mp he with h | h
    · exact t.all e h
    · rw [List.mem_singleton.mp h]
      exact ⟨hn, hz⟩
/-- the type of a word, for numbers up to m -/
def spTold (m : Nat) : Sp := fun vs H Q _ => ∃ (n : Nat) (z : Str) (k : Addr) (T : KT) (U : List Wl), vs = [.int ((n : Nat) : Int), .str z, .ref k] ∧ n ≤ m ∧ m ≤ 3 ∧ KnT U H k T ∧ z.length ≤ 40 ∧ z.cps.toList ∈ U ∧ Cut U ∧ U.length ≤ 100000 ∧
  ∀ (H' : Hp) (T' : KT) (v : Addr), KnT U H' k T' → (∀ e ∈ T', e ∈ T ∨ e.1.1 ≤ n) → But H H' k k → NkAt H' (.ref v) (tyN n z.cps.toList) → Q (.ref v) H'
def spToldI : Nat → Sp
  | 0 => fun _ _ _ _ => False
  | m + 1 => spTold m
/-- the rows of found -/
structure Fnd (P : Program) (w : World) (n : Nat) (u : Wl) (H : Hp) (D : Addr) (j : Nat) (rows : List NRow) : Prop where
  at_ : H D = some (NDO P w D rows)
  keys : KeysAt H rows
  are : rows.map (·.1) = firstsN (trisF (tyN n) u j)
theorem Fnd.tri {P : Program} {w : World} {n : Nat} {u : Wl} {H : Hp} {D : Addr} {j : Nat} {rows : List NRow} (f : Fnd P w n u H D j rows) (hj : j ≤ u.length) : ∀ r ∈ rows, IsTri n r.1 := fun r hr => by
  have h : r.1 ∈ rows.map (·.1) := List.mem_map.mpr ⟨r, hr, rfl⟩
  rw [f.are, firstsN_mem] at h
  exact tri_of (trisF_sub hj h)
theorem nk_sorted {H : Hp} : ∀ {ys : List NRow}, KeysAt H ys → NkAll H (ys.map fun r => V.ref r.2.1) (ys.map (·.1))
  | [], _ => .nil
  | y :: ys, h => .cons (h y List.mem_cons_self).1 (nk_sorted fun r hr => h r (List.mem_cons_of_mem _ hr))
theorem Fnd.len {P : Program} {w : World} {n : Nat} {u : Wl} {H : Hp} {D : Addr} {j : Nat} {rows : List NRow} (f : Fnd P w n u H D j rows) : rows.length ≤ j := by
  have h := congrArg List.length f.are
  rw [List.length_map] at h
  have h2 := firstsN_len (trisF (tyN n) u j)
  have h3 : (trisF (tyN n) u j).length = j := by unfold trisF; rw [List.length_map, List.length_range]
  omega
/-- tuple(sorted(found)) -/
theorem go_tupN {P : Program} {w : World} {n : Nat} {u : Wl} {H : Hp} {D : Addr} {rows : List NRow} {Q : VK} (hn : n ≤ 2) (f : Fnd P w n u H D u.length rows)
    (q : ∀ (H' : Hp) (p : Addr) (xs : List V), Grows H H' → H' p = some (.lst xs) → (∀ H'' t, Grows H' H'' → H'' t = some (.tup xs) → NkAt H'' (.ref t) (tyN (n + 1) u)) → Q (.ref p) H') : rSortN P w [.ref D] H Q := by
  refine ⟨D, rows, rfl, f.at_, f.keys, fun x hx y hy => alike_tris (f.tri (Nat.le_refl _) x hx) (f.tri (Nat.le_refl _) y hy), fun r hr => ?_, fun ys p hys np => ?_⟩
  · obtain ⟨a, c, b, e, _⟩ := f.tri (Nat.le_refl _) r hr
    exact ⟨_, _, e⟩
  · have gp : Grows H (upd H p (.lst (ys.map fun r => V.ref r.2.1))) := Grows.new np
    refine q _ p _ gp upd_same fun H'' t g ht => ?_
    have e : ys.map (·.1) = sortN (firstsN (trisF (tyN n) u u.length)) := by
      rw [hys, ← f.are]
      exact PySem.W.sort_maps (fun r : NRow => r.1) fun _ _ _ _ => rfl
    show NkAt H'' (.ref t) (.tup (sortN (firstsN (trisF (tyN n) u u.length))))
    rw [← e]
    refine .tup ht (nk_sorted fun r hr => ?_)
    rw [hys] at hr
    have k0 := f.keys r ((List.mergeSort_perm _ _).mem_iff.mp hr)
    exact ⟨NkAt.keep (fun b xs h => (gp.trans g) _ _ h) _ k0.1, k0.2⟩
end SWL
set_option Elab.async false
set_option linter.all false
set_option maxRecDepth 100000
set_option maxHeartbeats 16000000
namespace SWL
open PySem PySem.Spec PyProof.Rows L2 LamX
theorem go_dnewN {P : Program} {w : World} {σ : L2.St} {H : Hp} {Q : VK} (q : ∀ p, H p = none → Q (.ref p) (upd H p (NDO P w p []))) : tDNewN P w σ H Q := q
section
variable {P : Program} {w : World} {K : PySem.W.Frag} {mg : Str → Option Value} {base : Heap}
theorem scsLawType : FnScope ["n", "word", "met", "found", "at", "letter"] ["n", "word", "met"] (defScope sLawType) := ⟨rfl, rfl, rfl, by decide +kernel, rfl, by decide +kernel, by decide +kernel⟩
theorem stepsLawType {f : Addr} {fd : FuncData} {m : Nat} (F : L2.Fun K "_law_ty_type" "_law_ty_type" sLawType f fd) (B : Blt mg) (D : Def mg K "_law_ty_type" f fd ["n", "word", "met"]) (G : FnOk P w K mg base CX0 m f fd ["n", "word", "met"] (spToldI m)) :
    FnOk P w K mg base CX0 (m + 1) f fd ["n", "word", "met"] (spTold m) := by
  refine F.ok scsLawType (fun vs H Q E h => ?_) (fun cdv A outer s H vs Q E hr h => ⟨_,
    pss_cons (ps_if (pt_cmpR op_eq (pv 0) pe_int (nomark _)) (pss_one (ps_ret (pe_tup pa_nil))) pss_nil)
    (pss_cons (ps_if (pt_cmp (pc_dnotin (by have := hr.un; show (A.deeper _).units + 1 < _; omega) (pe_tup (pa_cons (pv 0) (pa_cons (pv 1) pa_nil))) (pv 2)) (by decide))
      (pss_cons (ps_set (i := 3) scsLawType.nd rfl (Or.inl rfl) pe_dnewN)
      (pss_cons (ps_for PassesOwn.never rfl (pi_enumS (by rfl) B.enum (pa_cons (pv 1) pa_nil)) (pg_tup rfl (pgs_cons (pg_name (i := 4) scsLawType.nd rfl (Or.inl rfl)) (pgs_cons (pg_name (i := 5) scsLawType.nd rfl (Or.inl rfl)) pgs_nil)))
        (pss_one (ps_nset (by have := hr.un; show (A.deeper _).units + 16 < _; omega) (pv 3) (pe_tup
          (pa_cons (pe_call G hr (by rfl) D.g D.k D.b .nil pass0 (pa_cons (pe_op op_sub (pv 0) pe_int) (pa_cons (pe_slice sl_str (pv 1) po_none (po_some (pv 4))) (pa_cons (pv 2) pa_nil))))
          (pa_cons (pv 5)
          (pa_cons (pe_call G hr (by rfl) D.g D.k D.b .nil pass0 (pa_cons (pe_op op_sub (pv 0) pe_int) (pa_cons (pe_slice sl_str (pv 1) (po_some (pe_op op_add (pv 4) pe_int)) po_none) (pa_cons (pv 2) pa_nil)))) pa_nil)))) pe_bl rfl)))
      (pss_one (ps_dput (by have := hr.un; show (A.deeper _).units + 1 < _; omega) (pv 2) (pe_tup (pa_cons (pv 0) (pa_cons (pv 1) pa_nil))) (pe_callTy call_tuple_of (by rfl) B.tuple (by decide +kernel) (pa_cons (pe_callB (cr_sortedN rfl (by have := hr.un; show (A.deeper _).units + 64 < _; omega)) (by rfl) B.sorted (by decide +kernel) (pa_cons (pv 3) pa_nil)) pa_nil)) rfl)))) pss_nil)
    (pss_one (ps_ret (pe_dget (by have := hr.un; show (A.deeper _).units + 1 < _; omega) (pv 2) (pe_tup (pa_cons (pv 0) (pa_cons (pv 1) pa_nil))) (fun _ _ => rfl))))), ?_⟩)
  · obtain ⟨n, z, k, T, U, rfl, _⟩ := h
    rfl
  · obtain ⟨n, z, k, T, U, rfl, hn, hm, t, hz, hU, cU, lU, q⟩ := h
    have sz : sizeLine = 16777216 := sizeLine_eq
    refine ⟨_, rfl, rfl, _, rfl, ?_⟩
    by_cases h0 : n = 0
    · subst h0
      refine if_pos_of (decide_eq_true rfl) ⟨by show 0 ≤ sizeLine; decide, fun p np => ?_⟩
      have g := Grows.new (o := .tup []) np
      exact q _ T p (t.grows g) (fun e he => .inl he) (But.of g) (.tup upd_same .nil)
    refine if_neg_of (by rw [decide_eq_false (fun e => h0 (by have := V.int.inj e; omega))]; decide) ?_
    obtain ⟨n, rfl⟩ : ∃ k, n = k + 1 := ⟨n - 1, by omega⟩
    obtain ⟨m, rfl⟩ : ∃ k, m = k + 1 := ⟨m - 1, by omega⟩
    have n1 : (((n + 1 : Nat) : Int) - 1) = ((n : Nat) : Int) := by omega
    have zl : z.cps.toList.length = z.length := cut_len z
    dsimp only [tNext, tSeq]
    refine (?_ : tIfS _ _ _ ?D _ _)
    have tell : ∀ (Hx : Hp) (T' : KT) (v : Addr) (v3 v4 v5 : Option V), KnT U Hx k T' → But H Hx k k → (∀ e ∈ T', e ∈ T ∨ e.1.1 ≤ n + 1) → ((n + 1, z), v) ∈ T' →
        Ends.nx ?D [some (.int ((n + 1 : Nat) : Int)), some (.str z), some (.ref k), v3, v4, v5] Hx := fun Hx T' v v3 v4 v5 tx bx nx hv => ?_
    rotate_left
    · refine ⟨_, rfl, _, rfl, _, rfl, by show 2 ≤ sizeLine; decide, fun t2 nt2 => ?_⟩
      have g2 : Grows Hx (upd Hx t2 (.tup [.int ((n + 1 : Nat) : Int), .str z])) := Grows.new nt2
      have k2 : upd Hx t2 (.tup [.int ((n + 1 : Nat) : Int), .str z]) t2 = some (.tup ((keyV (n + 1, z)).map kV)) := upd_same
      generalize upd Hx t2 (.tup [.int ((n + 1 : Nat) : Int), .str z]) = H2 at g2 k2 ⊢
      have ty := tx.grows g2
      have dg := DGet.t ty.at_ k2
      rcases val_kvT (n + 1, z) T' with ⟨_, no⟩ | ⟨i, v1, yes⟩
      · exact absurd hv (no v)
      · rw [v1] at dg
        exact ⟨k, _, rfl, dg, q H2 T' i ty nx (bx.trans (But.of g2)) (ty.good _ yes)⟩
    refine ⟨_, rfl, _, rfl, by show 2 ≤ sizeLine; decide, fun t1 nt1 => ?_⟩
    have g1 : Grows H (upd H t1 (.tup [.int ((n + 1 : Nat) : Int), .str z])) := Grows.new nt1
    have k1 : upd H t1 (.tup [.int ((n + 1 : Nat) : Int), .str z]) t1 = some (.tup ((keyV (n + 1, z)).map kV)) := upd_same
    generalize upd H t1 (.tup [.int ((n + 1 : Nat) : Int), .str z]) = H1 at g1 k1 ⊢
    have tt1 := t.grows g1
    refine ⟨_, rfl, k, _, rfl, DGet.t tt1.at_ k1, _, rfl, ?_⟩
    rcases val_kvT (n + 1, z) T with ⟨v0, no⟩ | ⟨i, v1, yes⟩
    · refine if_pos_of (by rw [v0]; rfl) ?_
      dsimp only [tSeq, tAsg]
      refine go_dnewN (P := P) (w := w) fun D nD => ?_
      have gD : Grows H1 (upd H1 D (NDO P w D [])) := Grows.new nD
      have fD : Fnd P w n z.cps.toList (upd H1 D (NDO P w D [])) D 0 [] := ⟨upd_same, fun r hr => (by cases hr), rfl⟩
      generalize upd H1 D (NDO P w D []) = H2 at gD fD ⊢
      have Dk : D ≠ k := fun e => by rw [e, tt1.at_] at nD; cases nD
      refine ⟨_, rfl, z, rfl, for_it walk_enumS (fun j σ H' => ∃ (v4 v5 : Option V) (T' : KT) (rows : List NRow), σ = [some (.int ((n + 1 : Nat) : Int)), some (.str z), some (.ref k), some (.ref D), v4, v5] ∧ KnT U H' k T' ∧ (∀ e ∈ T', e ∈ T ∨ e.1.1 ≤ n) ∧ But H H' k k ∧ Fnd P w n z.cps.toList H' D j rows)
        ⟨none, none, T, [], rfl, tt1.grows gD, fun e he => .inl he, But.of (g1.trans gD), fD⟩ (fun _ _ _ _ _ => trivial) ?_ ?_⟩
      · rintro j y σ H3 H4 hj ⟨v4, v5, T3, rows, rfl, t3, new3, b3, f3⟩ ⟨tp, _, _, rfl, ntp, rfl, e1, e2⟩
        obtain ⟨c, hc⟩ : ∃ c, z.cps.toList[j]? = some c := ⟨_, List.getElem?_eq_getElem hj⟩
        have e1' := (Option.some.inj e1).symm
        have e2 : z.cps.toList[j]?.map (fun c => V.str { cps := #[c] }) = some _ := e2
        rw [hc] at e2
        have e2' := (Option.some.inj e2).symm
        subst e1' e2'
        have g3 : Grows H3 (upd H3 tp (.tup [.int ((j : Nat) : Int), .str ⟨#[c]⟩])) := Grows.new ntp
        refine ⟨tp, _, rfl, .inl (.inl upd_same), rfl, _, _, rfl, _, _, rfl, rfl, ?_⟩
        generalize upd H3 tp (.tup [.int ((j : Nat) : Int), .str ⟨#[c]⟩]) = H4 at g3 ⊢
        have t4 := t3.grows g3
        have u1 := (cU _ hU j).1
        have u2 := (cU _ hU (j + 1)).2
        have w1 := cut_to z j
        have w2 := cut_from z (j + 1)
        have y1 : (cutS z none (some ((j : Nat) : Int))).length ≤ 40 := by rw [← cut_len, w1, List.length_take]; omega
        have y2 : (cutS z (some ((j + 1 : Nat) : Int)) none).length ≤ 40 := by rw [← cut_len, w2, List.length_drop]; omega
        refine ⟨_, rfl, _, rfl, _, _, rfl, rfl, _, rfl, _, rfl, _, rfl, ?_⟩
        dsimp only [tNoPart]
        refine ⟨z, rfl, by omega, _, rfl, n, cutS z none (some ((j : Nat) : Int)), k, T3, U, by rw [n1]; rfl, by omega, by omega, t4, y1, by rw [w1]; exact u1, cU, lU, fun H5 T5 v5' t5 new5 b5 nk5 => ?_⟩
        refine ⟨_, rfl, _, rfl, _, _, rfl, rfl, _, rfl, _, rfl, _, _, rfl, rfl, _, rfl, ?_⟩
        dsimp only [tNoPart]
        refine ⟨z, rfl, by omega, _, rfl, n, cutS z (some ((j + 1 : Nat) : Int)) none, k, T5, U, by rw [n1]; rfl, by omega, by omega, t5, y2, by rw [w2]; exact u2, cU, lU, fun H6 T6 v6' t6 new6 b6 nk6 => ?_⟩
        rw [w1] at nk5
        rw [w2] at nk6
        have b46 := b5.trans b6
        have tup46 := t4.tups b46
        refine ⟨by show 3 ≤ sizeLine; decide, fun t0 nt0 => ?_⟩
        have gt : Grows H6 (upd H6 t0 (.tup [.ref v5', .str ⟨#[c]⟩, .ref v6'])) := Grows.new nt0
        have kt0 : upd H6 t0 (.tup [.ref v5', .str ⟨#[c]⟩, .ref v6']) t0 = some (.tup [.ref v5', .str (sg c), .ref v6']) := upd_same
        generalize upd H6 t0 (.tup [.ref v5', .str ⟨#[c]⟩, .ref v6']) = H7 at gt kt0 ⊢
        have nk7 : NkAt H7 (.ref t0) (triN (tyN n (z.cps.toList.take j)) c (tyN n (z.cps.toList.drop (j + 1)))) := .tup kt0 (.cons (NkAt.keep (fun b xs e => gt _ _ (t5.tups b6 b xs e)) _ nk5) (.cons (.str _) (.cons (NkAt.keep (fun b xs e => gt _ _ e) _ nk6) .nil)))
        have t7 := t6.grows gt
        have kD7 : H7 D = some (NDO P w D rows) := gt _ _ (b46 D _ (g3 _ _ f3.at_) Dk Dk)
        have ks7 : KeysAt H7 rows := f3.keys.keep fun b xs e => gt _ _ (tup46 b xs (g3 _ _ e))
        have tri : IsTri n (triN (tyN n (z.cps.toList.take j)) c (tyN n (z.cps.toList.drop (j + 1)))) := ⟨_, c, _, rfl, ⟨_, rfl⟩, ⟨_, rfl⟩⟩
        have dep := isTri_depth tri
        have rl := f3.len
        refine ⟨D, t0, rows, _, rfl, rfl, kD7, ks7, nk7, by omega, by omega, ?_⟩
        have tupD : ∀ b xs, H7 b = some (.tup xs) → ∀ o, upd H7 D o b = some (.tup xs) := fun b xs e o => by rw [upd_ne (ne_of e kD7 (by unfold NDO; intro z; cases z))]; exact e
        refine ⟨_, _, T6, _, rfl, t7.off kD7 (by unfold NDO; intro xs z; cases z) (by unfold NDO; intro xs z; cases z), fun e he => ?_, fun b o e bk _ => ?_, upd_same, putN_keysAt (ks7.keep fun b xs e => tupD b xs e _) (NkAt.keep (fun b xs e => tupD b xs e _) _ nk7) (by omega), ?_⟩
        · rcases new6 e he with h | h
          · rcases new5 e h with h | h
            · exact new3 e h
            · exact .inr h
          · exact .inr h
        · rw [upd_ne (ne_of_none (g1 _ _ e) nD)]
          exact gt _ _ (b46 b o (g3 _ _ (b3 b o e bk bk)) bk bk)
        · rw [putN_keys, f3.are, ← firstsN_snoc, ← trisF_succ _ hc]
      · rintro σ H3 ⟨v4, v5, T3, rows, rfl, t3, new3, b3, f3⟩
        have no3 : ∀ i, ((n + 1, z), i) ∉ T3 := fun i hi => by
          rcases new3 _ hi with h | h
          · exact no i h
          · exact absurd h (by show ¬ (n + 1 ≤ n); omega)
        refine ⟨_, rfl, ?_⟩
        dsimp only [tNil]
        refine go_tupN (P := P) (w := w) (by omega) f3 fun H5 p xs g5 kp5 nkp => ?_
        refine ⟨p, _, rfl, .inl ⟨.inl (.inl kp5), fun T1 nT1 => ?_⟩⟩
        have gT1 : Grows H5 (upd H5 T1 (.tup xs)) := Grows.new nT1
        have nk1 : NkAt (upd H5 T1 (.tup xs)) (.ref T1) (tyN (n + 1) z.cps.toList) := nkp _ T1 gT1 upd_same
        generalize upd H5 T1 (.tup xs) = H6 at gT1 nk1 ⊢
        refine ⟨_, rfl, _, rfl, _, rfl, by show 2 ≤ sizeLine; decide, fun t2 nt2 => ?_⟩
        have g2 : Grows H6 (upd H6 t2 (.tup [.int ((n + 1 : Nat) : Int), .str z])) := Grows.new nt2
        have k2 : upd H6 t2 (.tup [.int ((n + 1 : Nat) : Int), .str z]) t2 = some (.tup ((keyV (n + 1, z)).map kV)) := upd_same
        generalize upd H6 t2 (.tup [.int ((n + 1 : Nat) : Int), .str z]) = H7 at g2 k2 ⊢
        have g37 := (g5.trans gT1).trans g2
        have t7 := t3.grows g37
        have tl := t7.len lU
        refine ⟨k, _, rfl, DPut.t t7.at_ k2 (by show (T3.map _).length < _; rw [List.length_map]; omega), ?_⟩
        obtain ⟨ep, t8⟩ := t7.put no3 (NkAt.keep (fun b xs e => g2 _ _ e) _ nk1) (by omega) hU
        rw [ep]
        refine tell _ _ T1 _ _ _ t8 (fun b o e bk _ => ?_) (fun e he => ?_) (List.mem_append_right _ List.mem_cons_self)
        · rw [upd_ne bk]
          exact g37 _ _ (b3 b o e bk bk)
        · rcases List.mem_append.mp he with h | h
          · rcases new3 e h with h | h
            · exact .inl h
            · exact .inr (by omega)
          · rw [List.mem_singleton.mp h]
            exact .inr (Nat.le_refl _)
    · refine if_neg_of (by rw [v1]; exact Bool.false_ne_true) ?_
      exact tell H1 T i _ _ _ tt1 (But.of g1) (fun e he => .inl he) yes
theorem oksLawType {f : Addr} {fd : FuncData} (F : L2.Fun K "_law_ty_type" "_law_ty_type" sLawType f fd) (B : Blt mg) (D : Def mg K "_law_ty_type" f fd ["n", "word", "met"]) : ∀ m : Nat, FnOk P w K mg base CX0 (m + 1) f fd ["n", "word", "met"] (spTold m)
  | 0 => stepsLawType F B D ⟨fun _ _ _ _ h => h.elim, fun _ _ _ _ _ _ _ _ _ _ _ _ _ h => h.elim⟩
  | m + 1 => stepsLawType F B D (oksLawType F B D m)
end
end SWL
set_option Elab.async false
set_option linter.all false
set_option maxRecDepth 100000
set_option maxHeartbeats 4000000
namespace SWL
open PySem PySem.Spec PyProof.Rows L2 LamX
/-! answers, as mathematics -/
def plTo (v : Wl) (c m : Nat) : List Nat := (List.range m).filter fun j => decide (v[j]? = some c)
/-- the places of a letter -/
def plF (v : Wl) (c : Nat) : List Nat := plTo v c v.length
theorem plTo_succ {v : Wl} {c m d : Nat} (h : v[m]? = some d) : plTo v c (m + 1) = plTo v c m ++ if d = c then [m] else [] := by
  unfold plTo
  rw [List.range_succ, List.filter_append]
  by_cases e : d = c
  · simp [h, e]
  · simp [h, e]
theorem plTo_len (v : Wl) (c m : Nat) : (plTo v c m).length ≤ m := by
  have := List.length_filter_le (fun j => decide (v[j]? = some c)) (List.range m)
  rw [List.length_range] at this
  exact this
theorem plF_mem {v : Wl} {c j : Nat} : j ∈ plF v c ↔ v[j]? = some c := by
  unfold plF plTo
  rw [List.mem_filter, List.mem_range, decide_eq_true_eq]
  exact ⟨fun h => h.2, fun h => ⟨(List.getElem?_eq_some_iff.mp h).1, h⟩⟩
noncomputable def fitB (n : Nat) (u v : Wl) (i j : Nat) : Bool := sameB n (u.take i) (v.take j) && sameB n (u.drop (i + 1)) (v.drop (j + 1))
theorem fitB_iff {n : Nat} {u v : Wl} {i j : Nat} : fitB n u v i j = true ↔ Same n (u.take i) (v.take j) ∧ Same n (u.drop (i + 1)) (v.drop (j + 1)) := by
  unfold fitB
  rw [Bool.and_eq_true, sameB_iff, sameB_iff]
/-- the least answer -/
noncomputable def ansN (n : Nat) (u v : Wl) (i c : Nat) : Option Nat := (plF v c).find? (fitB n u v i)
def ansV : Option Nat → V
  | none => .non
  | some j => .int ((j : Nat) : Int)
theorem ansN_some {n : Nat} {u v : Wl} {i c j : Nat} (h : ansN n u v i c = some j) : v[j]? = some c ∧ Same n (u.take i) (v.take j) ∧ Same n (u.drop (i + 1)) (v.drop (j + 1)) :=
  ⟨plF_mem.mp (List.mem_of_find?_eq_some h), fitB_iff.mp (List.find?_some h)⟩
theorem ansN_ne {n : Nat} {u v : Wl} {i c : Nat} : ansN n u v i c ≠ none ↔ ∃ j, v[j]? = some c ∧ Same n (u.take i) (v.take j) ∧ Same n (u.drop (i + 1)) (v.drop (j + 1)) := by
  constructor
  · intro h
    cases e : ansN n u v i c with
    | none => exact absurd e h
    | some j => exact ⟨j, ansN_some e⟩
  · rintro ⟨j, h1, h2⟩ e
    have := List.find?_eq_none.mp e j (plF_mem.mpr h1)
    exact this (fitB_iff.mpr h2)
/-- all places of u have answers in v -/
def Answers (n : Nat) (u v : Wl) (m : Nat) : Prop := ∀ i c, i < m → u[i]? = some c → ansN n u v i c ≠ none
theorem answers_succ {n : Nat} {u v : Wl} {m c : Nat} (h : u[m]? = some c) : Answers n u v (m + 1) ↔ Answers n u v m ∧ ansN n u v m c ≠ none := by
  constructor
  · intro q
    exact ⟨fun i d hi hd => q i d (by omega) hd, q m c (by omega) h⟩
  · rintro ⟨q1, q2⟩ i d hi hd
    by_cases e : i = m
    · subst e
      rw [h] at hd
      rw [← Option.some.inj hd]
      exact q2
    · exact q1 i d (by omega) hd
theorem same_answers (n : Nat) (u v : Wl) : Same (n + 1) u v ↔ Answers n u v u.length ∧ Answers n v u v.length := by
  constructor
  · intro h
    refine ⟨fun i c _ hc => ansN_ne.mpr (h.1 i c hc), fun j c _ hc => ansN_ne.mpr ?_⟩
    obtain ⟨i, h1, h2, h3⟩ := h.2 j c hc
    exact ⟨i, h1, same_symm n h2, same_symm n h3⟩
  · rintro ⟨h1, h2⟩
    refine ⟨fun i c hc => ansN_ne.mp (h1 i c (List.getElem?_eq_some_iff.mp hc).1 hc), fun j c hc => ?_⟩
    obtain ⟨i, q1, q2, q3⟩ := ansN_ne.mp (h2 j c (List.getElem?_eq_some_iff.mp hc).1 hc)
    exact ⟨i, q1, same_symm n q2, same_symm n q3⟩
/-- the last one that fits of the places turned about is the least -/
noncomputable def lastF (p : Nat → Bool) (l : List Nat) : Option Nat := l.foldl (fun d x => if p x = true then some x else d) none
theorem lastF_snoc (p : Nat → Bool) (l : List Nat) (x : Nat) : lastF p (l ++ [x]) = if p x = true then some x else lastF p l := by
  unfold lastF
  rw [List.foldl_append]
  rfl
theorem lastF_rev (p : Nat → Bool) (l : List Nat) : lastF p l.reverse = l.find? p := by
  induction l with
  | nil => rfl
  | cons x l ih =>
    rw [List.reverse_cons, lastF_snoc, ih, List.find?_cons]
    cases p x <;> rfl
/-- one letter, so many times -/
theorem take_rep (c i m : Nat) (h : i ≤ m) : (List.replicate m c).take i = List.replicate i c := by
  rw [List.take_replicate, Nat.min_eq_left h]
theorem drop_rep (c i m : Nat) : (List.replicate m c).drop i = List.replicate (m - i) c := List.drop_replicate ..
end SWL
set_option Elab.async false
set_option linter.all false
set_option maxRecDepth 100000
set_option maxHeartbeats 8000000
namespace SWL
open PySem PySem.Spec PyProof.Rows L2 LamX
/-! need_number within other bounds, parts_at, places_with -/
def BadR (K : PySem.W.Frag) (lo hi : Int) (H : Hp) (x : V) : Prop := NotNum K H x ∨ ∃ i, x = .int i ∧ ¬ (lo ≤ i ∧ i ≤ hi)
theorem BadR.grows {K : PySem.W.Frag} {lo hi : Int} {H H' : Hp} (g : Grows H H') {x : V} (h : BadR K lo hi H x) : BadR K lo hi H' x := h.imp (fun h => h.grows g) id
def spNeedR (K : PySem.W.Frag) (CM : Addr) (lo hi : Int) : Sp := fun vs H Q E => ∃ x, vs = [x, .int lo, .int hi] ∧ ((BadR K lo hi H x ∧ E (.ref CM) none H) ∨ ∃ n : Int, x = .int n ∧ lo ≤ n ∧ n ≤ hi ∧ Q .non H)
def spParts : Sp := fun vs H Q _ => ∃ (u v : Str) (i j : Nat), vs = [.str u, .int ((i : Nat) : Int), .str v, .int ((j : Nat) : Int)] ∧ u.length ≤ 40 ∧ v.length ≤ 40 ∧ i ≤ 1000 ∧ j ≤ 1000 ∧
  ∀ (H' : Hp) (t p1 p2 : Addr) (x1 x2 y1 y2 : Str), Grows H H' → H' t = some (.tup [.ref p1, .ref p2]) → H' p1 = some (.tup [.str x1, .str x2]) → H' p2 = some (.tup [.str y1, .str y2]) →
    x1.cps.toList = u.cps.toList.take i → x2.cps.toList = v.cps.toList.take j → y1.cps.toList = u.cps.toList.drop (i + 1) → y2.cps.toList = v.cps.toList.drop (j + 1) → Q (.ref t) H'
def nums (l : List Nat) : List V := l.map fun j => .int ((j : Nat) : Int)
def spPlaces : Sp := fun vs H Q _ => ∃ (z : Str) (c : Nat), vs = [.str z, .str (sg c)] ∧ z.length ≤ 40 ∧ ∀ (H' : Hp) (l : Addr), Grows H H' → H l = none → H' l = some (.lst (nums (plF z.cps.toList c))) → Q (.ref l) H'
section
variable {P : Program} {w : World} {K : PySem.W.Frag} {mg : Str → Option Value} {base : Heap}
theorem ok_needR {f f1 CM CS : Addr} {fd fd1 : FuncData} {lo hi : Int} (hlh : (lo = 1 ∧ hi = 8) ∨ (lo = 0 ∧ hi = 4)) (F : L2.Fun K "need_number" "need_number" sNeedN f fd) (B : Blt mg) (EM : ErrC K mg "NoNumber" CM CS)
    (G : FnOk P w K mg base CX0 1 f1 fd1 ["thing", "least", "most"] (spIsNum K)) (D : Def mg K "is_number" f1 fd1 ["thing", "least", "most"]) : FnOk P w K mg base (L2.CX P w) 2 f fd ["thing", "least", "most"] (spNeedR K CM lo hi) := by
  refine F.okX scNeedN (fun vs H Q E h => ?_) (fun cdv A outer s H vs Q E hr h => ⟨_,
    pss_one (ps_if (pt_not (pt_truth (pe_call G hr (by rfl) D.g D.k D.b .nil pass0 (pa_cons (pv 0) (pa_cons (pv 1) (pa_cons (pv 2) pa_nil)))) (by intro _; rfl)))
      (pss_one (ps_raise rfl (takes_of rfl rfl rfl rfl) (SkE.pmk_own1 PySem.F.excBase_ValueError EM.xC EM.gC EM.kC (raises_own EM.bC EM.tC) rfl
        (pe_op op_add_str (pe_op op_add_str (pe_op op_add_str pe_str (pe_callTy call_str_int (by rfl) B.str (by decide +kernel) (pa_cons (pv 1) pa_nil))) pe_str) (pe_callTy call_str_int (by rfl) B.str (by decide +kernel) (pa_cons (pv 2) pa_nil)))))) pss_nil), ?_⟩)
  · obtain ⟨x, rfl, _⟩ := h
    rfl
  · obtain ⟨x, rfl, h⟩ := h
    refine ⟨_, rfl, _, rfl, _, rfl, x, lo, hi, rfl, ?_⟩
    rcases h with ⟨n | ⟨i, rfl, hi⟩, e⟩ | ⟨n, rfl, h1, h2, q⟩
    · rcases hlh with ⟨rfl, rfl⟩ | ⟨rfl, rfl⟩
      · exact .inr ⟨n, false, rfl, if_pos_of (by decide) ⟨_, rfl, 1, rfl, by decide, _, _, rfl, rfl, by decide +kernel, _, _, rfl, rfl, by decide +kernel, _, rfl, 8, rfl, by decide, _, _, rfl, rfl, by decide +kernel, e⟩⟩
      · exact .inr ⟨n, false, rfl, if_pos_of (by decide) ⟨_, rfl, 0, rfl, by decide, _, _, rfl, rfl, by decide +kernel, _, _, rfl, rfl, by decide +kernel, _, rfl, 4, rfl, by decide, _, _, rfl, rfl, by decide +kernel, e⟩⟩
    · refine .inl ⟨i, rfl, _, rfl, if_pos_of (by rw [decide_eq_false hi]; decide) ?_⟩
      rcases hlh with ⟨rfl, rfl⟩ | ⟨rfl, rfl⟩
      · exact ⟨_, rfl, 1, rfl, by decide, _, _, rfl, rfl, by decide +kernel, _, _, rfl, rfl, by decide +kernel, _, rfl, 8, rfl, by decide, _, _, rfl, rfl, by decide +kernel, e⟩
      · exact ⟨_, rfl, 0, rfl, by decide, _, _, rfl, rfl, by decide +kernel, _, _, rfl, rfl, by decide +kernel, _, rfl, 4, rfl, by decide, _, _, rfl, rfl, by decide +kernel, e⟩
    · exact .inl ⟨n, rfl, _, rfl, if_neg_of (by rw [decide_eq_true ⟨h1, h2⟩]; decide) q⟩
theorem scParts : FnScope ["one", "at", "other", "there"] ["one", "at", "other", "there"] (defScope sParts) := ⟨rfl, rfl, rfl, by decide +kernel, rfl, by decide +kernel, by decide +kernel⟩
theorem ok_parts {f : Addr} {fd : FuncData} (F : L2.Fun K "parts_at" "parts_at" sParts f fd) : FnOk P w K mg base CX0 1 f fd ["one", "at", "other", "there"] spParts := by
  refine F.ok scParts (fun vs H Q E h => ?_) (fun cdv A outer s H vs Q E hr h => ⟨_,
    pss_one (ps_ret (pe_tup (pa_cons (pe_tup (pa_cons (pe_slice sl_str (pv 0) po_none (po_some (pv 1))) (pa_cons (pe_slice sl_str (pv 2) po_none (po_some (pv 3))) pa_nil)))
      (pa_cons (pe_tup (pa_cons (pe_slice sl_str (pv 0) (po_some (pe_op op_add (pv 1) pe_int)) po_none) (pa_cons (pe_slice sl_str (pv 2) (po_some (pe_op op_add (pv 3) pe_int)) po_none) pa_nil))) pa_nil)))), ?_⟩)
  · obtain ⟨u, v, i, j, rfl, _⟩ := h
    rfl
  · obtain ⟨u, v, i, j, rfl, hu, hv, hi, hj, q⟩ := h
    have sz : sizeLine = 16777216 := sizeLine_eq
    refine ⟨_, rfl, ?_⟩
    dsimp only [tNoPart]
    refine ⟨_, rfl, _, rfl, u, rfl, by omega, _, rfl, ?_⟩
    dsimp only [tNoPart]
    refine ⟨_, rfl, _, rfl, v, rfl, by omega, by show 2 ≤ sizeLine; omega, fun p1 np1 => ?_⟩
    have g1 := Grows.new (o := .tup [.str (cutS u none (some ((i : Nat) : Int))), .str (cutS v none (some ((j : Nat) : Int)))]) np1
    have k1 : upd H p1 (.tup [.str (cutS u none (some ((i : Nat) : Int))), .str (cutS v none (some ((j : Nat) : Int)))]) p1 = some _ := upd_same
    generalize upd H p1 (.tup [.str (cutS u none (some ((i : Nat) : Int))), .str (cutS v none (some ((j : Nat) : Int)))]) = H1 at g1 k1 ⊢
    refine ⟨_, rfl, _, rfl, _, _, rfl, rfl, _, rfl, ?_⟩
    dsimp only [tNoPart]
    refine ⟨u, rfl, by omega, _, rfl, _, rfl, _, _, rfl, rfl, _, rfl, ?_⟩
    dsimp only [tNoPart]
    refine ⟨v, rfl, by omega, by show 2 ≤ sizeLine; omega, fun p2 np2 => ?_⟩
    have g2 := Grows.new (o := .tup [.str (cutS u (some ((i + 1 : Nat) : Int)) none), .str (cutS v (some ((j + 1 : Nat) : Int)) none)]) np2
    have k2 : upd H1 p2 (.tup [.str (cutS u (some ((i + 1 : Nat) : Int)) none), .str (cutS v (some ((j + 1 : Nat) : Int)) none)]) p2 = some _ := upd_same
    refine ⟨by show 2 ≤ sizeLine; omega, fun t nt => ?_⟩
    have g3 := Grows.new (o := .tup [.ref p1, .ref p2]) nt
    exact q _ t p1 p2 _ _ _ _ ((g1.trans g2).trans g3) upd_same (g3 _ _ (g2 _ _ k1)) (g3 _ _ k2) (cut_to u i) (cut_to v j) (cut_from u (i + 1)) (cut_from v (j + 1))
theorem scPlaces : FnScope ["word", "letter", "at", "sign"] ["word", "letter"] (defScope sPlaces) := ⟨rfl, rfl, rfl, by decide +kernel, rfl, by decide +kernel, by decide +kernel⟩
theorem ok_places {f : Addr} {fd : FuncData} (F : L2.Fun K "places_with" "places_with" sPlaces f fd) (B : Blt mg) : FnOk P w K mg base CX0 1 f fd ["word", "letter"] spPlaces := by
  refine F.ok scPlaces (fun vs H Q E h => ?_) (fun cdv A outer s H vs Q E hr h => ⟨_,
    pss_one (ps_ret (pe_lc (own := [("at", 2), ("sign", 3)]) (g := gTup K 2 (gCons (gName 2) (gCons (gName 3) gNil))) (tt := tTest (tOp rEq (tVar 3) (tVar 1))) (te := tVar 2) rfl scPlaces.nd (pi_enumS (by rfl) B.enum (pa_cons (pv 0) pa_nil)) (blkOk_by (N := ["word", "letter", "at", "sign"]) (sc := defScope sPlaces) (by decide +kernel))
      (fun _ _ _ _ _ => pg_tup rfl (pgs_cons (pg_name (i := 2) scPlaces.nd rfl (Or.inl rfl)) (pgs_cons (pg_name (i := 3) scPlaces.nd rfl (Or.inl rfl)) pgs_nil))) (fun _ _ _ _ _ => pts_one (pt_cmpR op_eq (pv 3) (pv 1) (nomark _))) (fun _ _ _ _ _ => pv 2))), ?_⟩)
  · obtain ⟨z, c, rfl, _⟩ := h
    rfl
  · obtain ⟨z, c, rfl, hz, q⟩ := h
    have sz : sizeLine = 16777216 := sizeLine_eq
    have zl : z.cps.toList.length = z.length := cut_len z
    refine ⟨_, rfl, z, rfl, fun D nD => ?_⟩
    refine lc_it walk_enumS (fun n H' => Grows H H' ∧ H' D = some (.lst (nums (plTo z.cps.toList c n)))) ⟨Grows.new nD, upd_same⟩ (fun _ _ _ _ => trivial) ?_ ?_
    · rintro n y H2 H3 hn ⟨g, hD⟩ ⟨tp, _, _, rfl, ntp, rfl, e1, e2⟩
      obtain ⟨d, hd⟩ : ∃ d, z.cps.toList[n]? = some d := ⟨_, List.getElem?_eq_getElem hn⟩
      have e1' := (Option.some.inj e1).symm
      have e2 : z.cps.toList[n]?.map (fun c => V.str { cps := #[c] }) = some _ := e2
      rw [hd] at e2
      have e2' := (Option.some.inj e2).symm
      subst e1' e2'
      have g3 : Grows H2 (upd H2 tp (.tup [.int ((n : Nat) : Int), .str ⟨#[d]⟩])) := Grows.new ntp
      refine ⟨tp, _, rfl, .inl (.inl upd_same), rfl, _, _, rfl, _, _, rfl, rfl, rfl, ?_⟩
      generalize upd H2 tp (.tup [.int ((n : Nat) : Int), .str ⟨#[d]⟩]) = H3 at g3 ⊢
      refine ⟨_, rfl, _, rfl, rfl, _, rfl, ?_⟩
      have ed : decide (V.str { cps := #[d] } = V.str (sg c)) = decide (d = c) := by
        rw [Bool.eq_iff_iff, decide_eq_true_eq, decide_eq_true_eq]
        exact ⟨fun h => sg_inj (V.str.inj h), fun h => by rw [h]; rfl⟩
      rw [ed]
      have ps := plTo_succ (c := c) hd
      have pl := plTo_len z.cps.toList c n
      by_cases e : d = c
      · refine if_pos_of (decide_eq_true e) ⟨_, rfl, _, g3 _ _ hD, by unfold nums; rw [List.length_map]; omega, fun b o eb => ?_, ?_⟩
        · rw [upd_ne (ne_of_none eb nD)]
          exact g3 _ _ (g _ _ eb)
        · rw [upd_same, ps, if_pos e]
          unfold nums
          rw [List.map_append]
          rfl
      · refine if_neg_of (by rw [decide_eq_false e]; decide) ⟨g.trans g3, ?_⟩
        rw [ps, if_neg e, List.append_nil]
        exact g3 _ _ hD
    · rintro H2 ⟨g, hD⟩
      exact q H2 D g nD hD
end
end SWL
set_option Elab.async false
set_option linter.all false
set_option maxRecDepth 100000
set_option maxHeartbeats 16000000
namespace SWL
open PySem PySem.Spec PyProof.Rows L2 LamX
/-! least_answer, answer -/
/-- the keeper stays when a list grows -/
theorem TyAt.off {P : Program} {w : World} {C x a b D : Addr} {H : Hp} {M : Met} {L : List LotK} {ys zs : List V} (t : TyAt P w C H x a b M L) (hD : H D = some (.lst ys)) : TyAt P w C (upd H D (.lst zs)) x a b M L := by
  obtain ⟨dx, h1⟩ := t.obj
  obtain ⟨rows, h2, _⟩ := t.lots
  refine t.keep (fun c hc o e => ?_) fun c xs e => ?_
  · have n : c ≠ D := by
      rcases hc with rfl | rfl | rfl
      · exact ne_of h1 hD (by intro z; cases z)
      · exact ne_of t.met hD (by intro z; cases z)
      · exact ne_of h2 hD (by unfold NDO; intro z; cases z)
    rw [upd_ne n]
    exact e
  · rw [upd_ne (ne_of e hD (by intro z; cases z))]
    exact e
def spLeastA (P : Program) (w : World) (C : Addr) : Sp := fun vs H Q _ => ∃ (x a b : Addr) (M : Met) (L : List LotK) (n : Nat) (u v : Str) (i c : Nat) (U : List Wl), vs = [.ref x, .int ((n + 1 : Nat) : Int), .str u, .int ((i : Nat) : Int), .str v] ∧ n + 1 ≤ 8 ∧ TyAt P w C H x a b M L ∧ L.length ≤ M.length ∧ Known U M ∧ u.length ≤ 40 ∧ v.length ≤ 40 ∧ u.cps.toList ∈ U ∧ v.cps.toList ∈ U ∧ Cut U ∧ U.length ≤ 100000 ∧ u.cps.toList[i]? = some c ∧
  ∀ (H' : Hp) (M' : Met) (L' : List LotK), More P w C U H H' x a b L M' L' → Q (ansV (ansN n u.cps.toList v.cps.toList i c)) H'
abbrev NA : List Str := ["types", "n", "mine", "at", "its", "there", "pairs", "pair"]
section
variable {P : Program} {w : World} {K : PySem.W.Frag} {mg : Str → Option Value} {base : Heap}
theorem scLeastA : FnScope NA ["types", "n", "mine", "at", "its"] (defScope sLeastA) := ⟨rfl, rfl, rfl, by decide +kernel, rfl, by decide +kernel, by decide +kernel⟩
theorem ok_leastA {f f1 f2 fL fN fA C : Addr} {fd fd1 fd2 fdA : FuncData} (F : L2.Fun K "least_answer" "least_answer" sLeastA f fd) (B : Blt mg) (T : TyC K mg C fL fN) (mA : Meth K C "are_alike" fA)
    (GA : FnOk P w K mg base CX0 18 fA fdA ["self", "n", "one", "other"] (spAre P w C)) (bA : Binds K fdA ["self", "n", "one", "other"] [])
    (G1 : FnOk P w K mg base CX0 1 f1 fd1 ["one", "at", "other", "there"] spParts) (D1 : Def mg K "parts_at" f1 fd1 ["one", "at", "other", "there"])
    (G2 : FnOk P w K mg base CX0 1 f2 fd2 ["word", "letter"] spPlaces) (D2 : Def mg K "places_with" f2 fd2 ["word", "letter"]) : FnOk P w K mg base CX0 19 f fd ["types", "n", "mine", "at", "its"] (spLeastA P w C) := by
  refine F.ok scLeastA (fun vs H Q E h => ?_) (fun cdv A outer s H vs Q E hr h => ⟨_,
    pss_cons (ps_for PassesOwn.never rfl (pi_list (pe_call G2 (hr.mono (by decide)) (by rfl) D2.g D2.k D2.b .nil pass0 (pa_cons (pv 4) (pa_cons (pe_ix ix_str (pv 2) (pv 3) (fun _ _ => rfl)) pa_nil)))) (pg_name (i := 5) scLeastA.nd rfl (Or.inl rfl))
      (pss_cons (ps_set (i := 6) scLeastA.nd rfl (Or.inl rfl) (pe_call G1 (hr.mono (by decide)) (by rfl) D1.g D1.k D1.b .nil pass0 (pa_cons (pv 2) (pa_cons (pv 3) (pa_cons (pv 4) (pa_cons (pv 5) pa_nil))))))
      (pss_one (ps_if (pt_val (pe_callB (cr_all rfl) (by rfl) B.all (by decide +kernel) (pa_cons
        (pe_lc (own := [("pair", 7)]) (g := gName 7) (tt := tYes) (te := tMeth C "are_alike" (spAre P w C) [] E0 (tVar 0) (tCons (tOp rSub (tVar 1) (tC (.int 1))) (tCons (tOp (rIxT K) (tVar 7) (tC (.int 0))) (tCons (tOp (rIxT K) (tVar 7) (tC (.int 1))) tNil)))) rfl scLeastA.nd (pi_tup (pv 6)) (blkOk_by (N := NA) (sc := defScope sLeastA) (by decide +kernel))
          (fun _ _ _ _ _ => pg_name (i := 7) scLeastA.nd rfl (Or.inl rfl)) (fun _ _ _ _ _ => pts_nil)
          (fun _ _ _ _ _ => pe_meth (pv 0) T.cl mA GA hr bA .nil pass0 (pa_cons (pe_op op_sub (pv 1) pe_int) (pa_cons (pe_ix ix_tup (pv 7) pe_int (fun _ _ => rfl)) (pa_cons (pe_ix ix_tup (pv 7) pe_int (fun _ _ => rfl)) pa_nil))))) pa_nil)))
        (pss_one (ps_ret (pv 5))) pss_nil))))
    (pss_one (ps_ret pe_non)), ?_⟩)
  · obtain ⟨x, a, b, M, L, n, u, v, i, c, U, rfl, _⟩ := h
    rfl
  · obtain ⟨x, a, b, M, L, n, u, v, i, c, U, rfl, hn, t, hLM, kM, lu, lv, uU, vU, cU, lU, hc, q⟩ := h
    have sz : sizeLine = 16777216 := sizeLine_eq
    have hi : i < u.length := by rw [← cut_len]; exact (List.getElem?_eq_some_iff.mp hc).1
    have n1 : (((n + 1 : Nat) : Int) - 1) = ((n : Nat) : Int) := by omega
    refine ⟨_, rfl, _, rfl, _, rfl, u, _, c, rfl, rfl, by omega, atI_nat hc, v, c, rfl, lv, fun H1 l g1 nl kl => ?_⟩
    have t1 := t.grows g1
    have la : l ≠ a := fun e => by rw [e, t.met] at nl; cases nl
    have lb : l ≠ b := fun e => by
      obtain ⟨rows, hb, _⟩ := t.lots
      rw [e, hb] at nl
      cases nl
    have ll : (nums (plF v.cps.toList c)).length = (plF v.cps.toList c).length := List.length_map ..
    refine ⟨l, rfl, ⟨_, .inl (.inl kl)⟩, for_it (walk_list (xs := nums (plF v.cps.toList c))) (fun j σ H' => (∃ w5 w6 w7 : Option V, σ = [some (.ref x), some (.int ((n + 1 : Nat) : Int)), some (.str u), some (.int ((i : Nat) : Int)), some (.str v), w5, w6, w7]) ∧ (∃ (M' : Met) (L' : List LotK), More P w C U H1 H' x a b L M' L') ∧ ∀ k m, k < j → (plF v.cps.toList c)[k]? = some m → fitB n u.cps.toList v.cps.toList i m = false)
      ⟨⟨none, none, none, rfl⟩, ⟨M, L, t1, hLM, fun _ _ e => e, But.refl _ _ _, kM⟩, fun k m h => absurd h (Nat.not_lt_zero k)⟩ (fun _ _ H' _ p => by
        obtain ⟨_, ⟨M', L', mo⟩, _⟩ := p
        exact .inl (.inl (mo.but l _ kl la lb))) ?_ ?_⟩
    · rintro j y σ H2 H3 hj ⟨⟨w5, w6, w7, rfl⟩, ⟨M2, L2, mo2⟩, no⟩ ⟨rfl, hy⟩
      obtain ⟨m, hm, rfl⟩ : ∃ m, (plF v.cps.toList c)[j]? = some m ∧ y = .int ((m : Nat) : Int) := by
        unfold nums at hy
        rw [List.getElem?_map] at hy
        cases e : (plF v.cps.toList c)[j]? with
        | none => rw [e] at hy; cases hy
        | some m => rw [e] at hy; exact ⟨m, rfl, (Option.some.inj hy).symm⟩
      have hmv := plF_mem.mp (List.mem_of_getElem? hm)
      have mlt : m < v.length := by rw [← cut_len]; exact (List.getElem?_eq_some_iff.mp hmv).1
      refine ⟨_, rfl, _, rfl, _, rfl, _, rfl, u, v, i, m, rfl, lu, lv, by omega, by omega, fun H4 tt p1 p2 x1 x2 y1 y2 g4 ktt kp1 kp2 ex1 ex2 ey1 ey2 => ?_⟩
      have t4 := mo2.at_.grows g4
      have lx1 : x1.length ≤ 40 := by rw [← cut_len, ex1, List.length_take, cut_len]; omega
      have lx2 : x2.length ≤ 40 := by rw [← cut_len, ex2, List.length_take, cut_len]; omega
      have ly1 : y1.length ≤ 40 := by rw [← cut_len, ey1, List.length_drop, cut_len]; omega
      have ly2 : y2.length ≤ 40 := by rw [← cut_len, ey2, List.length_drop, cut_len]; omega
      have ux1 : x1.cps.toList ∈ U := by rw [ex1]; exact (cU _ uU i).1
      have ux2 : x2.cps.toList ∈ U := by rw [ex2]; exact (cU _ vU m).1
      have uy1 : y1.cps.toList ∈ U := by rw [ey1]; exact (cU _ uU (i + 1)).2
      have uy2 : y2.cps.toList ∈ U := by rw [ey2]; exact (cU _ vU (m + 1)).2
      refine ⟨_, rfl, tt, rfl, ⟨_, .inl (.inl ktt)⟩, fun D nD => ?_⟩
      have Da : D ≠ a := fun e => by rw [e, t4.met] at nD; cases nD
      have Db : D ≠ b := fun e => by
        obtain ⟨rows, hb, _⟩ := t4.lots
        rw [e, hb] at nD
        cases nD
      let bs : List Bool := [sameB n x1.cps.toList x2.cps.toList, sameB n y1.cps.toList y2.cps.toList]
      refine lc_it (walk_tup (xs := [V.ref p1, V.ref p2])) (fun k H' => (∃ (M' : Met) (L' : List LotK), More P w C U H4 H' x a b L2 M' L') ∧ H' D = some (.lst ((bs.take k).map V.bl)))
        ⟨⟨M2, L2, t4.grows (Grows.new nD), mo2.few, fun _ _ e => e, But.of (Grows.new nD), mo2.known⟩, upd_same⟩ (fun k H' _ p => ?_) ?_ ?_
      · obtain ⟨⟨M', L', mo⟩, _⟩ := p
        exact .inl (.inl (t4.tups mo.but _ _ ktt))
      · rintro k y H5 H6 hk ⟨⟨M5, L5, mo5⟩, kD5⟩ ⟨rfl, hy⟩
        obtain ⟨z1, z2, pz, rfl, kz, u1, u2, l1, l2, eb⟩ : ∃ (z1 z2 : Str) (pz : Addr), y = .ref pz ∧ H4 pz = some (.tup [.str z1, .str z2]) ∧ z1.cps.toList ∈ U ∧ z2.cps.toList ∈ U ∧ z1.length ≤ 40 ∧ z2.length ≤ 40 ∧ bs.take (k + 1) = bs.take k ++ [sameB n z1.cps.toList z2.cps.toList] := by
          rcases k with _ | _ | k
          · exact ⟨x1, x2, p1, (Option.some.inj hy).symm, kp1, ux1, ux2, lx1, lx2, rfl⟩
          · exact ⟨y1, y2, p2, (Option.some.inj hy).symm, kp2, uy1, uy2, ly1, ly2, rfl⟩
          · have : k + 2 < 2 := hk
            omega
        have kz5 := t4.tups mo5.but _ _ kz
        obtain ⟨dx5, hx5⟩ := mo5.at_.obj
        refine ⟨rfl, _, rfl, x, dx5, _, rfl, hx5, tyf_no a b aO_ aO2_, _, rfl, _, _, rfl, rfl, _, rfl, pz, _, _, _, rfl, rfl, .inl (.inl kz5), atI_nat (j := 0) rfl, _, rfl, pz, _, _, _, rfl, rfl, .inl (.inl kz5), atI_nat (j := 1) rfl, x, a, b, M5, L5, n, z1, z2, U, by rw [n1]; rfl, by omega, mo5.at_, mo5.few, mo5.known, l1, l2, u1, u2, cU, lU, fun H7 M7 L7 mo7 => ?_⟩
        have kD7 := mo7.but D _ kD5 Da Db
        refine ⟨_, kD7, by rw [List.length_map, List.length_take]; show min k 2 < sizeLine; omega, ⟨M7, L7, mo7.at_.off kD7, mo7.few, fun k l e => mo7.ext k l (mo5.ext k l e), fun p o e pa pb => ?_, mo7.known⟩, ?_⟩
        · rw [upd_ne (ne_of_none e nD)]
          exact mo7.but p o (mo5.but p o e pa pb) pa pb
        · rw [upd_same, eb, List.map_append]
          rfl
      · rintro H5 ⟨⟨M5, L5, mo5⟩, kD5⟩
        have kD5 : H5 D = some (.lst (bs.map V.bl)) := kD5
        refine ⟨D, bs, rfl, .inl (.inl kD5), _, rfl, ?_⟩
        have eb : bs.all id = fitB n u.cps.toList v.cps.toList i m := by
          show (sameB n x1.cps.toList x2.cps.toList && (sameB n y1.cps.toList y2.cps.toList && true)) = _
          rw [ex1, ex2, ey1, ey2, Bool.and_true]
          rfl
        have mo : More P w C U H1 H5 x a b L M5 L5 := ⟨mo5.at_, mo5.few, fun k l e => mo5.ext k l (mo2.ext k l e), fun p o e pa pb => mo5.but p o (g4 _ _ (mo2.but p o e pa pb)) pa pb, mo5.known⟩
        rw [eb]
        have pj : plF v.cps.toList c = (plF v.cps.toList c).take j ++ m :: (plF v.cps.toList c).drop (j + 1) := by
          obtain ⟨hj', e⟩ := List.getElem?_eq_some_iff.mp hm
          rw [← e, ← List.drop_eq_getElem_cons hj', List.take_append_drop]
        cases ef : fitB n u.cps.toList v.cps.toList i m with
        | true =>
          refine if_pos_of rfl ⟨_, rfl, ?_⟩
          have ea : ansN n u.cps.toList v.cps.toList i c = some m := by
            unfold ansN
            rw [pj, List.find?_append, List.find?_eq_none.mpr fun k hk => ?_, List.find?_cons_of_pos ef]
            · rfl
            · obtain ⟨k', hk'⟩ := List.getElem?_of_mem hk
              have hlt := (List.getElem?_eq_some_iff.mp hk').1
              rw [List.length_take] at hlt
              rw [List.getElem?_take_of_lt (by omega)] at hk'
              rw [no k' k (by omega) hk']
              exact Bool.false_ne_true
          have := q H5 M5 L5 ⟨mo.at_, mo.few, mo.ext, fun p o e pa pb => mo.but p o (g1 _ _ e) pa pb, mo.known⟩
          rw [ea] at this
          exact this
        | false =>
          refine if_neg_of Bool.false_ne_true ⟨⟨_, _, _, rfl⟩, ⟨M5, L5, mo⟩, fun k m' hk hm' => ?_⟩
          by_cases e : k = j
          · subst e
            rw [hm] at hm'
            rw [← Option.some.inj hm']
            exact ef
          · exact no k m' (by omega) hm'
    · rintro σ H2 ⟨⟨w5, w6, w7, rfl⟩, ⟨M2, L2, mo2⟩, no⟩
      have ea : ansN n u.cps.toList v.cps.toList i c = none := by
        unfold ansN
        rw [List.find?_eq_none]
        intro m hm
        obtain ⟨k, hk⟩ := List.getElem?_of_mem hm
        have hlt := (List.getElem?_eq_some_iff.mp hk).1
        rw [no k m (by omega) hk]
        exact Bool.false_ne_true
      have := q H2 M2 L2 ⟨mo2.at_, mo2.few, mo2.ext, fun p o e pa pb => mo2.but p o (g1 _ _ e) pa pb, mo2.known⟩
      rw [ea] at this
      exact this
end
end SWL
set_option Elab.async false
set_option linter.all false
set_option maxRecDepth 100000
set_option maxHeartbeats 4000000
namespace SWL
open PySem PySem.Spec PyProof.Rows L2 LamX
/-! bonds, as mathematics: triples, what a triple asks for, all that is reached -/
def sW (w : Wl) : Str := ⟨w.toArray⟩
theorem sW_cps (w : Wl) : (sW w).cps.toList = w := by simp [sW]
theorem sW_eq {z : Str} {w : Wl} (h : z.cps.toList = w) : z = sW w := PySem.W.str_of_cps (by rw [h, sW_cps])
theorem sW_inj {a b : Wl} (h : sW a = sW b) : a = b := by rw [← sW_cps a, h, sW_cps]
theorem sW_len (w : Wl) : (sW w).length = w.length := by rw [← cut_len, sW_cps]
abbrev Tp := Nat × Wl × Wl
def kP (t : Tp) : List Key := [.inl ((t.1 : Nat) : Int), .inr (sW t.2.1), .inr (sW t.2.2)]
theorem kP_inj {a b : Tp} (h : kP a = kP b) : a = b := by
  unfold kP at h
  simp only [List.cons.injEq, Sum.inl.injEq, Sum.inr.injEq, and_true] at h
  obtain ⟨h1, h2, h3⟩ := h
  exact Prod.ext (by omega) (Prod.ext (sW_inj h2) (sW_inj h3))
theorem kP_ne (t : Tp) : kP t ≠ [] := by unfold kP; simp
def LtP (a b : Tp) : Prop := a.1 < b.1 ∨ (a.1 = b.1 ∧ (a.2.1 < b.2.1 ∨ (a.2.1 = b.2.1 ∧ a.2.2 < b.2.2)))
instance (a b : Tp) : Decidable (LtP a b) := by unfold LtP; infer_instance
theorem ltP_data (a b : Tp) : PySem.W.dataLt (encT (kP a)) (encT (kP b)) = decide (LtP a b) := by
  show PySem.W.dataLt (.tuple [.int (a.1 : Nat), .str (sW a.2.1), .str (sW a.2.2)]) (.tuple [.int (b.1 : Nat), .str (sW b.2.1), .str (sW b.2.2)]) = _
  rw [PySem.W.dataLt_tuple, PySem.W.dataLt_cons (by simp [PySem.W.alike]), PySem.W.dataLt_cons (by simp [PySem.W.alike]), PySem.W.dataLt_cons (by simp [PySem.W.alike]), PySem.W.dataLt_int, PySem.W.dataLt_str, PySem.W.dataLt_str]
  have e : PyProof.Rows.lexLt itemOrd (PySem.W.keyToksAll []) (PySem.W.keyToksAll []) = false := lex_irrefl _
  rw [e, sW_cps, sW_cps, sW_cps, sW_cps]
  have q1 : (sW a.2.1 = sW b.2.1) ↔ a.2.1 = b.2.1 := ⟨sW_inj, fun h => by rw [h]⟩
  have q2 : (sW a.2.2 = sW b.2.2) ↔ a.2.2 = b.2.2 := ⟨sW_inj, fun h => by rw [h]⟩
  have irr : ∀ l : List Nat, ¬ l < l := fun l => List.lt_irrefl l
  unfold LtP
  simp only [PyData.eqv, beq_iff_eq, q1, q2]
  by_cases h1 : a.1 = b.1
  · by_cases h2 : a.2.1 = b.2.1
    · by_cases h3 : a.2.2 = b.2.2
      · simp [h1, h2, h3]
      · simp [h1, h2, h3, irr]
    · simp [h1, h2]
  · have h1' : ¬ ((a.1 : Int) = (b.1 : Int)) := by omega
    rw [if_neg h1']
    refine decide_eq_decide.mpr ⟨fun h => .inl (by omega), fun h => ?_⟩
    rcases h with h | ⟨h, _⟩
    · omega
    · exact absurd h h1
theorem ltP_asym {a b : Tp} (h : LtP a b) : ¬ LtP b a := by
  have as : ∀ x y : Wl, x < y → ¬ y < x := fun x y h => List.lt_asymm h
  have ir : ∀ x : Wl, ¬ x < x := fun x => List.lt_irrefl x
  unfold LtP at *
  intro k
  rcases h with h | ⟨h1, h⟩
  · rcases k with k | ⟨k1, _⟩ <;> omega
  · rcases k with k | ⟨_, k⟩
    · omega
    · rcases h with h | ⟨h2, h⟩
      · rcases k with k | ⟨k2, _⟩
        · exact as _ _ h k
        · rw [k2] at h; exact ir _ h
      · rcases k with k | ⟨_, k⟩
        · rw [h2] at k; exact ir _ k
        · exact as _ _ h k
theorem wl_tri {x y : Wl} (h : ¬ y < x) (n : x ≠ y) : x < y := by
  rcases List.le_iff_lt_or_eq.mp (List.not_lt.mp h) with h | h
  · exact h
  · exact absurd h n
theorem ltP_tri {a b : Tp} (h : ¬ LtP b a) (n : a ≠ b) : LtP a b := by
  unfold LtP at *
  by_cases h1 : a.1 = b.1
  · by_cases h2 : a.2.1 = b.2.1
    · have h3 : a.2.2 ≠ b.2.2 := fun e => n (Prod.ext h1 (Prod.ext h2 e))
      exact .inr ⟨h1, .inr ⟨h2, wl_tri (fun k => h (.inr ⟨h1.symm, .inr ⟨h2.symm, k⟩⟩)) h3⟩⟩
    · exact .inr ⟨h1, .inl (wl_tri (fun k => h (.inr ⟨h1.symm, .inl k⟩)) h2)⟩
  · exact .inl (by
      have : ¬ b.1 < a.1 := fun k => h (.inl k)
      omega)
theorem alikeP (l : List Tp) : PySem.W.AllAlike ((l.map kP).map encT) := fun d hd d' hd' => by
  obtain ⟨k, hk, rfl⟩ := List.mem_map.mp hd
  obtain ⟨k', hk', rfl⟩ := List.mem_map.mp hd'
  obtain ⟨t, _, rfl⟩ := List.mem_map.mp hk
  obtain ⟨t', _, rfl⟩ := List.mem_map.mp hk'
  rfl
/-- the pairs of words that a triple asks for, one round less -/
noncomputable def askOf (n : Nat) (u v : Wl) (i : Nat) : List (Wl × Wl) := match u[i]? with
  | none => []
  | some c => match ansN n u v i c with
    | none => []
    | some j => [(u.take i, v.take j), (u.drop (i + 1), v.drop (j + 1))]
noncomputable def askTo (n : Nat) (u v : Wl) (m : Nat) : List (Wl × Wl) := (List.range m).flatMap (askOf n u v)
noncomputable def asks (n : Nat) (u v : Wl) : List (Wl × Wl) := askTo n u v u.length ++ (askTo n v u v.length).map Prod.swap
theorem askTo_succ (n : Nat) (u v : Wl) (m : Nat) : askTo n u v (m + 1) = askTo n u v m ++ askOf n u v m := by
  unfold askTo
  rw [List.range_succ, List.flatMap_append]
  simp
theorem askTo_len (n : Nat) (u v : Wl) : ∀ m, (askTo n u v m).length ≤ 2 * m
  | 0 => by unfold askTo; simp
  | m + 1 => by
    rw [askTo_succ, List.length_append]
    have := askTo_len n u v m
    have : (askOf n u v m).length ≤ 2 := by
      unfold askOf
      split
      · simp
      · split <;> simp
    omega
theorem asks_len (n : Nat) (u v : Wl) : (asks n u v).length ≤ 2 * (u.length + v.length) := by
  unfold asks
  rw [List.length_append, List.length_map]
  have := askTo_len n u v u.length
  have := askTo_len n v u v.length
  omega
theorem askOf_mem {n : Nat} {u v : Wl} {i : Nat} {p : Wl × Wl} (h : p ∈ askOf n u v i) : ∃ c j, u[i]? = some c ∧ ansN n u v i c = some j ∧ (p = (u.take i, v.take j) ∨ p = (u.drop (i + 1), v.drop (j + 1))) := by
  unfold askOf at h
  split at h
  · cases h
  · rename_i c hc
    split at h
    · cases h
    · rename_i j hj
      simp only [List.mem_cons, List.not_mem_nil, or_false] at h
      exact ⟨c, j, hc, hj, h⟩
theorem askTo_mem {n : Nat} {u v : Wl} {m : Nat} {p : Wl × Wl} (h : p ∈ askTo n u v m) : ∃ i c j, u[i]? = some c ∧ ansN n u v i c = some j ∧ (p = (u.take i, v.take j) ∨ p = (u.drop (i + 1), v.drop (j + 1))) := by
  unfold askTo at h
  obtain ⟨i, _, hi⟩ := List.mem_flatMap.mp h
  exact ⟨i, askOf_mem hi⟩
theorem askTo_of {n : Nat} {u v : Wl} {i c j : Nat} (hc : u[i]? = some c) (hj : ansN n u v i c = some j) : (u.take i, v.take j) ∈ askTo n u v u.length ∧ (u.drop (i + 1), v.drop (j + 1)) ∈ askTo n u v u.length := by
  have e : askOf n u v i = [(u.take i, v.take j), (u.drop (i + 1), v.drop (j + 1))] := by
    unfold askOf
    rw [hc]
    show (match ansN n u v i c with | none => [] | some j => [(u.take i, v.take j), (u.drop (i + 1), v.drop (j + 1))]) = _
    rw [hj]
  have hi := List.mem_range.mpr (List.getElem?_eq_some_iff.mp hc).1
  unfold askTo
  exact ⟨List.mem_flatMap.mpr ⟨i, hi, by rw [e]; simp⟩, List.mem_flatMap.mpr ⟨i, hi, by rw [e]; simp⟩⟩
theorem asks_fst {n : Nat} {u v : Wl} (h : Same (n + 1) u v) {i c : Nat} (hc : u[i]? = some c) : ∃ j, v[j]? = some c ∧ (u.take i, v.take j) ∈ asks n u v ∧ (u.drop (i + 1), v.drop (j + 1)) ∈ asks n u v := by
  have ne := ansN_ne.mpr (h.1 i c hc)
  cases e : ansN n u v i c with
  | none => exact absurd e ne
  | some j =>
    obtain ⟨h1, h2⟩ := askTo_of hc e
    exact ⟨j, (ansN_some e).1, List.mem_append_left _ h1, List.mem_append_left _ h2⟩
theorem asks_snd {n : Nat} {u v : Wl} (h : Same (n + 1) u v) {j c : Nat} (hc : v[j]? = some c) : ∃ i, u[i]? = some c ∧ (u.take i, v.take j) ∈ asks n u v ∧ (u.drop (i + 1), v.drop (j + 1)) ∈ asks n u v := by
  have ne := ansN_ne.mpr ((same_symm _ h).1 j c hc)
  cases e : ansN n v u j c with
  | none => exact absurd e ne
  | some i =>
    obtain ⟨h1, h2⟩ := askTo_of hc e
    exact ⟨i, (ansN_some e).1, List.mem_append_right _ (List.mem_map.mpr ⟨_, h1, rfl⟩), List.mem_append_right _ (List.mem_map.mpr ⟨_, h2, rfl⟩)⟩
theorem asks_mem {n : Nat} {u v : Wl} {p : Wl × Wl} (h : p ∈ asks n u v) : Same n p.1 p.2 ∧ ∃ i j, (p = (u.take i, v.take j) ∨ p = (u.drop (i + 1), v.drop (j + 1))) := by
  rcases List.mem_append.mp h with h | h
  · obtain ⟨i, c, j, _, hj, e⟩ := askTo_mem h
    obtain ⟨_, s1, s2⟩ := ansN_some hj
    refine ⟨?_, i, j, e⟩
    rcases e with rfl | rfl
    · exact s1
    · exact s2
  · obtain ⟨q, hq, rfl⟩ := List.mem_map.mp h
    obtain ⟨i, c, j, _, hj, e⟩ := askTo_mem hq
    obtain ⟨_, s1, s2⟩ := ansN_some hj
    refine ⟨?_, j, i, ?_⟩
    · rcases e with rfl | rfl
      · exact same_symm _ s1
      · exact same_symm _ s2
    · rcases e with rfl | rfl
      · exact .inl rfl
      · exact .inr rfl
/-- a kind of words that all beginnings and ends of a word have too -/
def CutP (W : Wl → Prop) : Prop := ∀ w, W w → ∀ i, W (w.take i) ∧ W (w.drop i)
theorem asks_cut {W : Wl → Prop} (k : CutP W) {n : Nat} {u v : Wl} {p : Wl × Wl} (h : p ∈ asks n u v) (hu : W u) (hv : W v) : W p.1 ∧ W p.2 := by
  obtain ⟨_, i, j, e⟩ := asks_mem h
  rcases e with rfl | rfl
  · exact ⟨(k u hu i).1, (k v hv j).1⟩
  · exact ⟨(k u hu _).2, (k v hv _).2⟩
theorem asks_sz {n : Nat} {u v : Wl} {p : Wl × Wl} (h : p ∈ asks n u v) : p.1.length + p.2.length ≤ u.length + v.length := by
  obtain ⟨_, i, j, e⟩ := asks_mem h
  rcases e with rfl | rfl
  · show (u.take i).length + (v.take j).length ≤ _
    rw [List.length_take, List.length_take]; omega
  · show (u.drop (i + 1)).length + (v.drop (j + 1)).length ≤ _
    rw [List.length_drop, List.length_drop]; omega
/-- all triples reached -/
noncomputable def treeN : Nat → Wl → Wl → List Tp
  | 0, _, _ => []
  | n + 1, u, v => if u = v then [] else (n + 1, u, v) :: (asks n u v).flatMap fun p => treeN n p.1 p.2
theorem tree_self {n : Nat} {u v : Wl} (h : u ≠ v) : (n + 1, u, v) ∈ treeN (n + 1) u v := by
  rw [treeN, if_neg h]
  exact List.mem_cons_self
theorem tree_sub : ∀ (n : Nat) {u v : Wl} {m : Nat} {x y : Wl}, (m + 1, x, y) ∈ treeN n u v → ∀ p ∈ asks m x y, ∀ t ∈ treeN m p.1 p.2, t ∈ treeN n u v
  | 0, u, v, m, x, y, h, p, hp, t, ht => by rw [treeN] at h; cases h
  | n + 1, u, v, m, x, y, h, p, hp, t, ht => by
    rw [treeN] at h ⊢
    by_cases e : u = v
    · rw [if_pos e] at h; cases h
    · rw [if_neg e] at h ⊢
      rcases List.mem_cons.mp h with q | q
      · have e1 : m = n := by
          have := (Prod.mk.inj q).1
          omega
        have e2 := (Prod.mk.inj (Prod.mk.inj q).2).1
        have e3 := (Prod.mk.inj (Prod.mk.inj q).2).2
        subst e1 e2 e3
        exact List.mem_cons_of_mem _ (List.mem_flatMap.mpr ⟨p, hp, ht⟩)
      · obtain ⟨p', hp', hq⟩ := List.mem_flatMap.mp q
        exact List.mem_cons_of_mem _ (List.mem_flatMap.mpr ⟨p', hp', tree_sub n hq p hp t ht⟩)
theorem tree_mem {W : Wl → Prop} (k : CutP W) : ∀ (n : Nat) {u v : Wl}, W u → W v → Same n u v → ∀ t ∈ treeN n u v, 1 ≤ t.1 ∧ t.1 ≤ n ∧ t.2.1 ≠ t.2.2 ∧ W t.2.1 ∧ W t.2.2 ∧ Same t.1 t.2.1 t.2.2
  | 0, u, v, _, _, _, t, ht => by rw [treeN] at ht; cases ht
  | n + 1, u, v, hu, hv, hs, t, ht => by
    rw [treeN] at ht
    by_cases e : u = v
    · rw [if_pos e] at ht; cases ht
    · rw [if_neg e] at ht
      rcases List.mem_cons.mp ht with rfl | q
      · exact ⟨Nat.succ_pos n, Nat.le_refl _, e, hu, hv, hs⟩
      · obtain ⟨p, hp, hq⟩ := List.mem_flatMap.mp q
        obtain ⟨w1, w2⟩ := asks_cut k hp hu hv
        obtain ⟨h1, h2, h3⟩ := tree_mem k n w1 w2 (asks_mem hp).1 t hq
        exact ⟨h1, by omega, h3⟩
/-- what holds at the root and passes on holds of all -/
theorem tree_in {R : Tp → Prop} (cl : ∀ m x y, R (m + 1, x, y) → ∀ p ∈ asks m x y, m = 0 ∨ p.1 = p.2 ∨ R (m, p.1, p.2)) : ∀ (n : Nat) {u v : Wl}, (n = 0 ∨ u = v ∨ R (n, u, v)) → ∀ t ∈ treeN n u v, R t
  | 0, u, v, _, t, ht => by rw [treeN] at ht; cases ht
  | n + 1, u, v, h, t, ht => by
    rw [treeN] at ht
    by_cases e : u = v
    · rw [if_pos e] at ht; cases ht
    · rw [if_neg e] at ht
      have r : R (n + 1, u, v) := (h.resolve_left (by omega)).resolve_left e
      rcases List.mem_cons.mp ht with rfl | q
      · exact r
      · obtain ⟨p, hp, hq⟩ := List.mem_flatMap.mp q
        exact tree_in cl n (cl n u v r p hp) t hq
def wF (s : Nat) : Nat → Nat
  | 0 => 0
  | n + 1 => 1 + 2 * s * wF s n
def wW (s : Nat) : Nat → Nat
  | 0 => 1
  | n + 1 => 1 + 2 * s * wW s n
theorem flat_len {α β : Type} (f : α → List β) (m : Nat) : ∀ l : List α, (∀ x ∈ l, (f x).length ≤ m) → (l.flatMap f).length ≤ l.length * m
  | [], _ => by simp
  | x :: l, h => by
    rw [List.flatMap_cons, List.length_append, List.length_cons, Nat.succ_mul]
    have h1 := h x List.mem_cons_self
    have h2 := flat_len f m l fun y hy => h y (List.mem_cons_of_mem _ hy)
    omega
theorem tree_len (s : Nat) : ∀ (n : Nat) {u v : Wl}, u.length + v.length ≤ s → (treeN n u v).length ≤ wF s n
  | 0, u, v, _ => by rw [treeN]; exact Nat.zero_le _
  | n + 1, u, v, h => by
    rw [treeN]
    by_cases e : u = v
    · rw [if_pos e]; exact Nat.zero_le _
    · rw [if_neg e, List.length_cons]
      have h1 := flat_len (fun p : Wl × Wl => treeN n p.1 p.2) (wF s n) (asks n u v) fun p hp => tree_len s n (Nat.le_trans (asks_sz hp) h)
      have h2 := asks_len n u v
      have h3 : (asks n u v).length * wF s n ≤ 2 * s * wF s n := Nat.mul_le_mul_right _ (by omega)
      show _ ≤ 1 + 2 * s * wF s n
      omega
theorem wF_le {s r : Nat} (h : s ≤ r) : ∀ n, wF s n ≤ wF r n
  | 0 => Nat.le_refl _
  | n + 1 => by
    show 1 + 2 * s * wF s n ≤ 1 + 2 * r * wF r n
    have := Nat.mul_le_mul (Nat.mul_le_mul_left 2 h) (wF_le h n)
    omega
/-- two lists of one set, in strict order -/
theorem sortP_pw {l : List Tp} (nd : l.Nodup) {ts : List Tp} (h : ts.map kP = (l.map kP).mergeSort (PySem.W.dataLe false encT)) : ts.Pairwise LtP ∧ ∀ t, t ∈ ts ↔ t ∈ l := by
  have pm : (ts.map kP).Perm (l.map kP) := by rw [h]; exact List.mergeSort_perm _ _
  have ndk : (ts.map kP).Nodup := pm.nodup_iff.mpr (by
    rw [List.Nodup, List.pairwise_map]
    exact nd.imp fun hne e => hne (kP_inj e))
  have pw : ((l.map kP).mergeSort (PySem.W.dataLe false encT)).Pairwise fun x y => PySem.W.dataLt (encT y) (encT x) = false := by
    refine List.Pairwise.imp (fun {x y} hxy => ?_) (PySem.W.sort_pairwise (PySem.W.sortLe_total (listOrd itemOrd) false fun y : List Key => PySem.W.keyToks (encT y)) (l.map kP))
    have hxy : (!PySem.W.dataLt (encT y) (encT x)) = true := hxy
    rw [Bool.not_eq_true'] at hxy
    exact hxy
  rw [← h, List.pairwise_map] at pw
  refine ⟨?_, fun t => ?_⟩
  · rw [List.Nodup, List.pairwise_map] at ndk
    refine (pw.and ndk).imp fun {x y} hxy => ?_
    have e := hxy.1
    rw [ltP_data] at e
    exact ltP_tri (of_decide_eq_false e) fun e => hxy.2 (by rw [e])
  · constructor
    · intro ht
      have := pm.mem_iff.mp (List.mem_map.mpr ⟨t, ht, rfl⟩)
      obtain ⟨t', ht', e⟩ := List.mem_map.mp this
      rw [← kP_inj e]
      exact ht'
    · intro ht
      have := pm.mem_iff.mpr (List.mem_map.mpr ⟨t, ht, rfl⟩)
      obtain ⟨t', ht', e⟩ := List.mem_map.mp this
      rw [← kP_inj e]
      exact ht'
end SWL
set_option Elab.async false
set_option linter.all false
set_option maxRecDepth 100000
set_option maxHeartbeats 4000000
namespace SWL
open PySem PySem.Spec PyProof.Rows L2 LamX
/-! what is granted, has answers, is a bond: as mathematics -/
def gr (K : List Tp) (t : Tp) : Bool := decide (t.1 = 0) || decide (t.2.1 = t.2.2) || decide (t ∈ K)
theorem gr_iff {K : List Tp} {t : Tp} : gr K t = true ↔ t.1 = 0 ∨ t.2.1 = t.2.2 ∨ t ∈ K := by
  unfold gr
  simp only [Bool.or_eq_true, decide_eq_true_eq, or_assoc]
def mkP (b : Bool) (n : Nat) (x y : Wl) : Tp := if b = true then (n, x, y) else (n, y, x)
def fitK (K : List Tp) (b : Bool) (n : Nat) (u v : Wl) (i j : Nat) : Bool := gr K (mkP b n (u.take i) (v.take j)) && gr K (mkP b n (u.drop (i + 1)) (v.drop (j + 1)))
def hasO (K : List Tp) (b : Bool) (n : Nat) (u v : Wl) (i c : Nat) : Bool := (plF v c).any (fitK K b n u v i)
def hasK (K : List Tp) (b : Bool) (n : Nat) (u v : Wl) : Bool := (List.range u.length).all fun i => hasO K b n u v i (u.getD i 0)
theorem hasK_iff {K : List Tp} {b : Bool} {n : Nat} {u v : Wl} : hasK K b n u v = true ↔ ∀ i c, u[i]? = some c → hasO K b n u v i c = true := by
  unfold hasK
  rw [List.all_eq_true]
  constructor
  · intro h i c hc
    have q := h i (List.mem_range.mpr (List.getElem?_eq_some_iff.mp hc).1)
    rw [List.getD_eq_getElem?_getD, hc] at q
    exact q
  · intro h i hi
    have hl := List.mem_range.mp hi
    rw [List.getD_eq_getElem?_getD, List.getElem?_eq_getElem hl]
    exact h i _ (List.getElem?_eq_getElem hl)
theorem hasO_iff {K : List Tp} {b : Bool} {n : Nat} {u v : Wl} {i c : Nat} : hasO K b n u v i c = true ↔ ∃ j, v[j]? = some c ∧ gr K (mkP b n (u.take i) (v.take j)) = true ∧ gr K (mkP b n (u.drop (i + 1)) (v.drop (j + 1))) = true := by
  unfold hasO fitK
  rw [List.any_eq_true]
  simp only [Bool.and_eq_true, plF_mem]
def okT (K : List Tp) (t : Tp) : Bool := hasK K true (t.1 - 1) t.2.1 t.2.2 && hasK K false (t.1 - 1) t.2.2 t.2.1
def isB (K : List Tp) (t0 : Tp) : Bool := gr K t0 && K.all (okT K)
theorem gr_mem {K L : List Tp} (h : ∀ t, t ∈ K ↔ t ∈ L) (t : Tp) : gr K t = gr L t := by
  rw [Bool.eq_iff_iff, gr_iff, gr_iff, h]
theorem okT_mem {K L : List Tp} (h : ∀ t, t ∈ K ↔ t ∈ L) (t : Tp) : okT K t = okT L t := by
  have e : gr K = gr L := funext (gr_mem h)
  unfold okT hasK hasO fitK
  rw [e]
theorem isB_mem {K L : List Tp} (h : ∀ t, t ∈ K ↔ t ∈ L) (t0 : Tp) : isB K t0 = isB L t0 := by
  unfold isB
  rw [gr_mem h, Bool.eq_iff_iff, Bool.and_eq_true, Bool.and_eq_true, List.all_eq_true, List.all_eq_true]
  constructor
  · exact fun ⟨a, b⟩ => ⟨a, fun x hx => by rw [← okT_mem h]; exact b x ((h x).mpr hx)⟩
  · exact fun ⟨a, b⟩ => ⟨a, fun x hx => by rw [okT_mem h]; exact b x ((h x).mp hx)⟩
/-- what is granted by a bond is alike -/
theorem gr_same {K : List Tp} (pos : ∀ t ∈ K, 1 ≤ t.1) (cl : ∀ t ∈ K, okT K t = true) : ∀ (n : Nat) {u v : Wl}, gr K (n, u, v) = true → Same n u v
  | 0, _, _, _ => True.intro
  | n + 1, u, v, h => by
    rcases gr_iff.mp h with h | h | h
    · exact absurd h (Nat.succ_ne_zero n)
    · have h : u = v := h
      subst h
      exact same_refl _ _
    · have q := cl _ h
      unfold okT at q
      rw [Bool.and_eq_true, hasK_iff, hasK_iff] at q
      obtain ⟨q1, q2⟩ := q
      refine ⟨fun i c hc => ?_, fun j c hc => ?_⟩
      · obtain ⟨j, h1, h2, h3⟩ := hasO_iff.mp (q1 i c hc)
        exact ⟨j, h1, gr_same pos cl n h2, gr_same pos cl n h3⟩
      · obtain ⟨i, h1, h2, h3⟩ := hasO_iff.mp (q2 j c hc)
        exact ⟨i, h1, gr_same pos cl n h2, gr_same pos cl n h3⟩
theorem isB_same {K : List Tp} (pos : ∀ t ∈ K, 1 ≤ t.1) {n : Nat} {u v : Wl} (h : isB K (n, u, v) = true) : Same n u v := by
  unfold isB at h
  rw [Bool.and_eq_true, List.all_eq_true] at h
  exact gr_same pos h.2 n h.1
theorem triv_or (t : Tp) : (t.1 = 0 ∨ t.2.1 = t.2.2) ∨ ∃ n, t.1 = n + 1 ∧ t.2.1 ≠ t.2.2 := by
  rcases t with ⟨n, u, v⟩
  cases n with
  | zero => exact .inl (.inl rfl)
  | succ n =>
    by_cases e : u = v
    · exact .inl (.inr e)
    · exact .inr ⟨n, rfl, e⟩
/-- the tree is a bond -/
theorem tree_isB {n : Nat} {u v : Wl} (h : Same n u v) {K : List Tp} (hK : ∀ t, t ∈ K ↔ t ∈ treeN n u v) : isB K (n, u, v) = true := by
  have all : CutP fun _ => True := fun _ _ _ => ⟨trivial, trivial⟩
  have mem := tree_mem all n (u := u) (v := v) trivial trivial h
  have root : gr K (n, u, v) = true := by
    refine gr_iff.mpr ?_
    rcases triv_or (n, u, v) with (e | e) | ⟨m, e1, e2⟩
    · exact .inl e
    · exact .inr (.inl e)
    · have e1 : n = m + 1 := e1
      subst e1
      exact .inr (.inr ((hK _).mpr (tree_self e2)))
  have sub : ∀ m x y, (m + 1, x, y) ∈ K → ∀ p ∈ asks m x y, gr K (m, p.1, p.2) = true := fun m x y hx p hp => by
    refine gr_iff.mpr ?_
    rcases triv_or (m, p.1, p.2) with (e | e) | ⟨k, e1, e2⟩
    · exact .inl e
    · exact .inr (.inl e)
    · have e1 : m = k + 1 := e1
      subst e1
      exact .inr (.inr ((hK _).mpr (tree_sub n ((hK _).mp hx) p hp _ (tree_self e2))))
  unfold isB
  rw [root, Bool.true_and, List.all_eq_true]
  rintro ⟨m, x, y⟩ ht
  obtain ⟨h1, _, _, _, _, hs⟩ := mem _ ((hK _).mp ht)
  obtain ⟨m, rfl⟩ : ∃ k, m = k + 1 := ⟨m - 1, by have h1 : 1 ≤ m := h1; omega⟩
  have hs : Same (m + 1) x y := hs
  unfold okT
  rw [Bool.and_eq_true, hasK_iff, hasK_iff]
  refine ⟨fun i c hc => ?_, fun j c hc => ?_⟩
  · obtain ⟨j, h2, h3, h4⟩ := asks_fst hs hc
    exact hasO_iff.mpr ⟨j, h2, sub m x y ht _ h3, sub m x y ht _ h4⟩
  · obtain ⟨i, h2, h3, h4⟩ := asks_snd hs hc
    exact hasO_iff.mpr ⟨i, h2, sub m x y ht _ h3, sub m x y ht _ h4⟩
/-- what is given as a bond: triples, and things that are none -/
def fitO : Option Tp → Bool
  | some t => decide (1 ≤ t.1)
  | none => false
def bondB (os : List (Option Tp)) (t0 : Tp) : Bool := os.all fitO && isB (os.filterMap id) t0
theorem bondB_same {os : List (Option Tp)} {n : Nat} {u v : Wl} (h : bondB os (n, u, v) = true) : Same n u v := by
  unfold bondB at h
  rw [Bool.and_eq_true, List.all_eq_true] at h
  refine isB_same (fun t ht => ?_) h.2
  obtain ⟨o, ho, e⟩ := List.mem_filterMap.mp ht
  have q := h.1 o ho
  rw [show o = some t from e] at q
  exact of_decide_eq_true q
theorem bondB_some (l : List Tp) (t0 : Tp) (pos : ∀ t ∈ l, 1 ≤ t.1) : bondB (l.map some) t0 = isB l t0 := by
  unfold bondB
  have e1 : (l.map some).all fitO = true := by
    rw [List.all_eq_true]
    intro o ho
    obtain ⟨t, ht, rfl⟩ := List.mem_map.mp ho
    exact decide_eq_true (pos t ht)
  have e2 : (l.map some).filterMap id = l := by
    induction l with
    | nil => rfl
    | cons a l ih => 
      rw [List.map_cons, List.filterMap_cons]
      show a :: _ = _
      rw [ih (fun t ht => pos t (List.mem_cons_of_mem _ ht)) (by rw [List.map_cons, List.all_cons, Bool.and_eq_true] at e1; exact e1.2)]
  rw [e1, Bool.true_and, e2]
/-- keys, each once, as they first come -/
def oneP (acc : List Tp) (t : Tp) : List Tp := if t ∈ acc then acc else acc ++ [t]
def firstsP (l : List Tp) : List Tp := l.foldl oneP []
theorem firstsP_snoc (l : List Tp) (t : Tp) : firstsP (l ++ [t]) = oneP (firstsP l) t := by
  unfold firstsP
  rw [List.foldl_append]
  rfl
theorem oneP_mem {acc : List Tp} {t x : Tp} : x ∈ oneP acc t ↔ x ∈ acc ∨ x = t := by
  unfold oneP
  split
  · exact ⟨.inl, fun h => h.elim id fun e => by rw [e]; assumption⟩
  · rw [List.mem_append, List.mem_singleton]
theorem firstsP_gen : ∀ (l acc : List Tp), acc.Nodup → (l.foldl oneP acc).Nodup ∧ ∀ t, t ∈ l.foldl oneP acc ↔ t ∈ acc ∨ t ∈ l
  | [], acc, nd => ⟨nd, fun t => by simp⟩
  | x :: l, acc, nd => by
    have nd2 : (oneP acc x).Nodup := by
      unfold oneP
      split
      · exact nd
      · rename_i hx
        rw [List.nodup_append]
        refine ⟨nd, by simp, fun a ha b hb e => hx ?_⟩
        rw [List.mem_singleton.mp hb] at e
        rw [← e]
        exact ha
    obtain ⟨h1, h2⟩ := firstsP_gen l (oneP acc x) nd2
    refine ⟨h1, fun t => ?_⟩
    rw [List.foldl_cons, h2, oneP_mem, List.mem_cons, or_assoc]
theorem firstsP_nd (l : List Tp) : (firstsP l).Nodup := (firstsP_gen l [] .nil).1
theorem firstsP_mem (l : List Tp) (t : Tp) : t ∈ firstsP l ↔ t ∈ l := by
  have := (firstsP_gen l [] .nil).2 t
  unfold firstsP
  simpa using this
theorem firstsP_len (l : List Tp) : (firstsP l).length ≤ l.length := by
  have gen : ∀ (l acc : List Tp), (l.foldl oneP acc).length ≤ acc.length + l.length := by
    intro l
    induction l with
    | nil => intro acc; exact Nat.le_refl _
    | cons x l ih =>
      intro acc
      rw [List.foldl_cons, List.length_cons]
      have h1 := ih (oneP acc x)
      have h2 : (oneP acc x).length ≤ acc.length + 1 := by
        unfold oneP
        split
        · omega
        · rw [List.length_append]; simp
      omega
  unfold firstsP
  simpa using gen l []
theorem firsts_kP (l : List Tp) : firsts (l.map kP) = (firstsP l).map kP := by
  have gen : ∀ (l acc : List Tp), (l.map kP).foldl oneMore (acc.map kP) = (l.foldl oneP acc).map kP := by
    intro l
    induction l with
    | nil => intro acc; rfl
    | cons x l ih =>
      intro acc
      rw [List.map_cons, List.foldl_cons, List.foldl_cons, ← ih]
      congr 1
      unfold oneMore oneP
      have e : ((acc.map kP).any fun z => decide (z = kP x)) = decide (x ∈ acc) := by
        rw [Bool.eq_iff_iff, List.any_eq_true, decide_eq_true_eq]
        constructor
        · rintro ⟨z, hz, hd⟩
          obtain ⟨t, ht, rfl⟩ := List.mem_map.mp hz
          rw [← kP_inj (of_decide_eq_true hd)]
          exact ht
        · exact fun h => ⟨kP x, List.mem_map.mpr ⟨x, h, rfl⟩, by simp⟩
      rw [e]
      by_cases h : x ∈ acc
      · rw [if_pos (decide_eq_true h), if_pos h]
      · rw [if_neg (by rw [decide_eq_false h]; decide), if_neg h, List.map_append]
        rfl
  exact gen l []
/-- rows of a dict whose keys are triples -/
def rowsT (l : List Tp) (y : V) : List (List Key × V) := l.map fun t => (kP t, y)
theorem rowsT_keys (l : List Tp) (y : V) : (rowsT l y).map (·.1) = l.map kP := by
  unfold rowsT
  rw [List.map_map]
  rfl
theorem rowsT_val (t : Tp) (y : V) : ∀ l : List Tp, (valV (rowsT l y) (kP t)).isSome = decide (t ∈ l)
  | [] => rfl
  | x :: l => by
    by_cases e : x = t
    · subst e
      rw [show valV (rowsT (x :: l) y) (kP x) = some y from valV_pos rfl, decide_eq_true List.mem_cons_self]
      rfl
    · have h : valV (rowsT (x :: l) y) (kP t) = valV (rowsT l y) (kP t) := valV_neg fun z => e (kP_inj z)
      rw [h, rowsT_val t y l, Bool.eq_iff_iff, decide_eq_true_eq, decide_eq_true_eq, List.mem_cons]
      exact ⟨.inr, fun h => h.resolve_left fun z => e z.symm⟩
theorem rowsT_put (t : Tp) (y : V) (l : List Tp) : putK (rowsT l y) (kP t) y = rowsT (oneP l t) y := by
  have e : ((rowsT l y).any fun kv => decide (kv.1 = kP t)) = decide (t ∈ l) := by
    rw [Bool.eq_iff_iff, List.any_eq_true, decide_eq_true_eq]
    constructor
    · rintro ⟨z, hz, hd⟩
      obtain ⟨x, hx, rfl⟩ := List.mem_map.mp hz
      rw [← kP_inj (of_decide_eq_true hd)]
      exact hx
    · exact fun h => ⟨(kP t, y), List.mem_map.mpr ⟨t, h, rfl⟩, by simp⟩
  unfold putK
  rw [e]
  unfold oneP
  by_cases h : t ∈ l
  · rw [if_pos (decide_eq_true h), if_pos h]
    unfold rowsT
    rw [List.map_map]
    refine List.map_congr_left fun x _ => ?_
    show (if kP x = kP t then (kP x, y) else (kP x, y)) = _
    split <;> rfl
  · rw [if_neg (by rw [decide_eq_false h]; decide), if_neg h]
    unfold rowsT
    rw [List.map_append]
    rfl
end SWL
set_option Elab.async false
set_option linter.all false
set_option maxRecDepth 100000
set_option maxHeartbeats 4000000
namespace SWL
open PySem PySem.Spec PyProof.Rows L2 LamX
/-! triples on the heap, and as data -/
def tupP (t : Tp) : List V := [.int ((t.1 : Nat) : Int), .str (sW t.2.1), .str (sW t.2.2)]
theorem tupP_key (t : Tp) : tupP t = (kP t).map kV := rfl
def TpAt (H : Hp) (x : V) (t : Tp) : Prop := ∃ b, x = .ref b ∧ H b = some (.tup (tupP t))
abbrev TpsAt (H : Hp) : List V → List Tp → Prop := Paired (TpAt H)
theorem TpAt.keep {H H' : Hp} (g : ∀ b xs, H b = some (.tup xs) → H' b = some (.tup xs)) {x : V} {t : Tp} (h : TpAt H x t) : TpAt H' x t := let ⟨b, e, k⟩ := h; ⟨b, e, g _ _ k⟩
theorem TpsAt.keep {H H' : Hp} (g : ∀ b xs, H b = some (.tup xs) → H' b = some (.tup xs)) {xs : List V} {ts : List Tp} (h : TpsAt H xs ts) : TpsAt H' xs ts := Paired.mapP h fun _ _ k => k.keep g
theorem tps_get {H : Hp} {xs : List V} {ts : List Tp} (h : TpsAt H xs ts) : ∀ {i : Nat} {x : V}, xs[i]? = some x → ∃ t, ts[i]? = some t ∧ TpAt H x t := by
  unfold TpsAt at h
  induction h with
  | nil => intro i x e; simp at e
  | cons h t ih =>
    intro i x e
    cases i with
    | zero => exact ⟨_, rfl, by rw [← Option.some.inj e]; exact h⟩
    | succ i => exact ih e
theorem tps_app {H : Hp} {xs ys : List V} {ts us : List Tp} (h : TpsAt H xs ts) (k : TpsAt H ys us) : TpsAt H (xs ++ ys) (ts ++ us) := by
  unfold TpsAt at h
  induction h with
  | nil => exact k
  | cons h t ih => exact .cons h ih
theorem tps_take {H : Hp} {xs : List V} {ts : List Tp} (h : TpsAt H xs ts) (i : Nat) : TpsAt H (xs.take i) (ts.take i) := by
  unfold TpsAt at h
  induction h generalizing i with
  | nil => simp only [List.take_nil]; exact .nil
  | cons h t ih =>
    cases i with
    | zero => exact .nil
    | succ i => exact .cons h (ih i)
theorem tps_drop {H : Hp} {xs : List V} {ts : List Tp} (h : TpsAt H xs ts) (i : Nat) : TpsAt H (xs.drop i) (ts.drop i) := by
  unfold TpsAt at h
  induction h generalizing i with
  | nil => simp only [List.drop_nil]; exact .nil
  | cons h t ih =>
    cases i with
    | zero => exact .cons h t
    | succ i => exact ih i
theorem tps_rev {H : Hp} {xs : List V} {ts : List Tp} (h : TpsAt H xs ts) : TpsAt H xs.reverse ts.reverse := by
  unfold TpsAt at h
  induction h with
  | nil => exact .nil
  | cons h t ih =>
    rw [List.reverse_cons, List.reverse_cons]
    exact tps_app ih (.cons h .nil)
def tpD (t : Tp) : PyData := encT (kP t)
theorem tp_dp {K : PySem.W.Frag} {H : Hp} {x : V} {t : Tp} (h : TpAt H x t) : Dp K H x (tpD t) := by
  obtain ⟨b, rfl, k⟩ := h
  exact .tup (.inl (.inl k)) (.cons (.int _) (.cons (.str _) (.cons (.str _) .nil)))
theorem tps_dp {K : PySem.W.Frag} {H : Hp} {xs : List V} {ts : List Tp} (h : TpsAt H xs ts) : DpAll K H xs (ts.map tpD) := by
  unfold TpsAt at h
  induction h with
  | nil => exact .nil
  | cons h t ih => exact .cons (tp_dp h) ih
/-! small plain data -/
def okTp (t : Tp) : Prop := t.1 ≤ 4 ∧ t.2.1.length ≤ 12 ∧ t.2.2.length ≤ 12 ∧ (∀ c ∈ t.2.1, c < 0x110000) ∧ ∀ c ∈ t.2.2, c < 0x110000
structure FitD (m : Nat) (d : PyData) : Prop where
  can : d.canLay0 = true
  short : d.intsShort 13 = true
  show_ : d.showable = true
  nd : d.hasDict = false
  wt : d.weight ≤ m
theorem fitD_all {m : Nat} : ∀ {ds : List PyData}, (∀ d ∈ ds, FitD m d) → PyData.canLayAll0 ds = true ∧ PyData.intsShortAll 13 ds = true ∧ PyData.showableAll ds = true ∧ PyData.hasDictAll ds = false ∧ PyData.weightAll ds ≤ ds.length * (m + 1)
  | [], _ => ⟨rfl, rfl, rfl, rfl, by simp [PyData.weightAll]⟩
  | d :: ds, h => by
    obtain ⟨a1, a2, a3, a4, a5⟩ := h d List.mem_cons_self
    obtain ⟨b1, b2, b3, b4, b5⟩ := fitD_all (ds := ds) fun x hx => h x (List.mem_cons_of_mem _ hx)
    refine ⟨?_, ?_, ?_, ?_, ?_⟩
    · rw [PyData.canLayAll0, a1, b1]; rfl
    · rw [PyData.intsShortAll, a2, b2]; rfl
    · rw [PyData.showableAll, a3, b3]; rfl
    · rw [PyData.hasDictAll, a4, b4]; rfl
    · rw [PyData.weightAll, List.length_cons, Nat.succ_mul]
      omega
theorem fit_word {w : Wl} {m : Nat} (h : w.length ≤ m) (hc : ∀ c ∈ w, c < 0x110000) : FitD m (.str (sW w)) := by
  refine ⟨?_, rfl, rfl, rfl, ?_⟩
  · show PyData.strOk (sW w) = true
    unfold PyData.strOk sW
    rw [← Array.all_toList, List.all_eq_true]
    intro c hcc
    exact decide_eq_true (hc c hcc)
  · show PyData.weight (.str (sW w)) ≤ m
    rw [PyData.weight]
    show w.toArray.size ≤ m
    rw [List.size_toArray]
    exact h
theorem fit_small : ∀ j : Fin 5, PyData.canLay0 (.int ((j.1 : Nat) : Int)) = true ∧ PyData.intsShort 13 (.int ((j.1 : Nat) : Int)) = true ∧ PyData.showable (.int ((j.1 : Nat) : Int)) = true ∧ PyData.hasDict (.int ((j.1 : Nat) : Int)) = false ∧ PyData.weight (.int ((j.1 : Nat) : Int)) ≤ 12 := by decide +kernel
theorem fit_tp {t : Tp} (h : okTp t) : FitD 39 (tpD t) := by
  obtain ⟨h1, h2, h3, h4, h5⟩ := h
  obtain ⟨f1, f2, f3, f4, f5⟩ := fit_small ⟨t.1, by omega⟩
  have q := fitD_all (m := 12) (ds := [.int ((t.1 : Nat) : Int), .str (sW t.2.1), .str (sW t.2.2)]) fun d hd => by
    simp only [List.mem_cons, List.not_mem_nil, or_false] at hd
    rcases hd with rfl | rfl | rfl
    · exact ⟨f1, f2, f3, f4, f5⟩
    · exact fit_word h2 h4
    · exact fit_word h3 h5
  obtain ⟨q1, q2, q3, q4, q5⟩ := q
  exact ⟨q1, q2, q3, q4, q5⟩
theorem depth_tp (t : Tp) : (tpD t).depth = 1 := by
  show PyData.depth (.tuple [.int ((t.1 : Nat) : Int), .str (sW t.2.1), .str (sW t.2.2)]) = 1
  simp [PyData.depth, PyData.depthAll]
theorem depth_tps (ts : List Tp) : (PyData.list (ts.map tpD)).depth ≤ 2 := by
  rw [PyData.depth]
  have : ∀ l : List Tp, PyData.depthAll (l.map tpD) ≤ 1 := by
    intro l
    induction l with
    | nil => exact Nat.zero_le _
    | cons t l ih =>
      rw [List.map_cons, PyData.depthAll, depth_tp]
      omega
  have := this ts
  omega
theorem shaped_tps {ts : List Tp} (h : ∀ t ∈ ts, okTp t) : SeqAt.shaped (.list (ts.map tpD)) = true := by
  have q := fitD_all (m := 39) (ds := ts.map tpD) fun d hd => by
    obtain ⟨t, ht, rfl⟩ := List.mem_map.mp hd
    exact fit_tp (h t ht)
  have d := depth_tps ts
  show (PyData.canLay0 _ && decide (PyData.depth _ ≤ 64)) = true
  rw [decide_eq_true (show PyData.depth (.list (ts.map tpD)) ≤ 64 by omega), Bool.and_true]
  exact q.1
theorem good_tps {ts : List Tp} (h : ∀ t ∈ ts, okTp t) (few : ts.length ≤ 20000) : GoodD (.list (ts.map tpD)) := by
  obtain ⟨q1, q2, q3, q4, q5⟩ := fitD_all (m := 39) (ds := ts.map tpD) fun d hd => by
    obtain ⟨t, ht, rfl⟩ := List.mem_map.mp hd
    exact fit_tp (h t ht)
  have d := depth_tps ts
  refine ⟨?_, by omega, q2, q3, q4⟩
  rw [List.length_map] at q5
  have wt : PyData.weight (.list (ts.map tpD)) ≤ 2 ^ 20 := by
    show PyData.weightAll (ts.map tpD) ≤ 2 ^ 20
    have : (2 : Nat) ^ 20 = 1048576 := by decide
    omega
  show (PyData.canLay0 _ && decide (PyData.depth _ ≤ 64) && decide (PyData.weight _ ≤ 2 ^ 20)) = true
  rw [decide_eq_true wt, decide_eq_true (show PyData.depth (.list (ts.map tpD)) ≤ 64 by omega), Bool.and_true, Bool.and_true]
  exact q1
end SWL
set_option Elab.async false
set_option linter.all false
set_option maxRecDepth 100000
set_option maxHeartbeats 8000000
namespace SWL
open PySem PySem.Spec PyProof.Rows L2 LamX
/-! need_game; is_granted and the law's own; is_triple -/
theorem Grows.not_new {H H' : Hp} (g : Grows H H') {a : Addr} (n : H' a = none) : H a = none := by
  cases e : H a with
  | none => rfl
  | some o => rw [g a o e] at n; cases n
def kwN {α : Type} : List α → List α → List α
  | [a, b], [c] => [a, b, c]
  | _, _ => []
def BadV (K : PySem.W.Frag) (H : Hp) (ls : Str) (x : V) : Prop := NotStr K H x ∨ ∃ z, x = .str z ∧ z.length ≤ sizeLine ∧ okWord ls z 12 = false
theorem BadV.grows {K : PySem.W.Frag} {H H' : Hp} (g : Grows H H') {ls : Str} {x : V} (h : BadV K H ls x) : BadV K H' ls x := h.imp (fun h => h.grows g) id
/-- the things that a game is asked with; R what follows -/
def GameP (K : PySem.W.Frag) (CN CM CW : Addr) (H : Hp) (E : XK) (x y u v : V) (R : Str → Nat → Str → Str → Prop) : Prop :=
  (BadL K H x ∧ ∀ H', Grows H H' → E (.ref CN) none H') ∨ ∃ ls, x = .str ls ∧ ls.length ≤ sizeLine ∧ okLetters ls = true ∧ ((BadR K 0 4 H y ∧ ∀ H', Grows H H' → E (.ref CM) none H') ∨ ∃ n : Nat, y = .int ((n : Nat) : Int) ∧ n ≤ 4 ∧
    ((BadV K H ls u ∧ ∀ H', Grows H H' → E (.ref CW) none H') ∨ ∃ z1, u = .str z1 ∧ z1.length ≤ 12 ∧ okWord ls z1 12 = true ∧ ((BadV K H ls v ∧ ∀ H', Grows H H' → E (.ref CW) none H') ∨ ∃ z2, v = .str z2 ∧ z2.length ≤ 12 ∧ okWord ls z2 12 = true ∧ R ls n z1 z2)))
theorem GameP.imp {K : PySem.W.Frag} {CN CM CW : Addr} {H : Hp} {E E' : XK} {x y u v : V} {R R' : Str → Nat → Str → Str → Prop} (h : GameP K CN CM CW H E x y u v R) (e : ∀ c H', E c none H' → E' c none H') (r : ∀ ls n z1 z2, x = .str ls → ls.length ≤ sizeLine → okLetters ls = true → y = .int ((n : Nat) : Int) → u = .str z1 → v = .str z2 → n ≤ 4 → z1.length ≤ 12 → z2.length ≤ 12 → okWord ls z1 12 = true → okWord ls z2 12 = true → R ls n z1 z2 → R' ls n z1 z2) : GameP K CN CM CW H E' x y u v R' := by
  rcases h with ⟨a, b⟩ | ⟨ls, a1, a2, a3, h⟩
  · exact .inl ⟨a, fun H' g => e _ _ (b H' g)⟩
  refine .inr ⟨ls, a1, a2, a3, ?_⟩
  rcases h with ⟨a, b⟩ | ⟨n, b1, b2, h⟩
  · exact .inl ⟨a, fun H' g => e _ _ (b H' g)⟩
  refine .inr ⟨n, b1, b2, ?_⟩
  rcases h with ⟨a, b⟩ | ⟨z1, c1, c2, c3, h⟩
  · exact .inl ⟨a, fun H' g => e _ _ (b H' g)⟩
  refine .inr ⟨z1, c1, c2, c3, ?_⟩
  rcases h with ⟨a, b⟩ | ⟨z2, d1, d2, d3, h⟩
  · exact .inl ⟨a, fun H' g => e _ _ (b H' g)⟩
  exact .inr ⟨z2, d1, d2, d3, r ls n z1 z2 a1 a2 a3 b1 c1 d1 b2 c2 d2 c3 d3 h⟩
def spGame (K : PySem.W.Frag) (CN CM CW : Addr) : Sp := fun vs H Q E => ∃ x y u v, vs = [x, y, u, v] ∧ GameP K CN CM CW H E x y u v fun _ _ _ _ => ∀ H', Grows H H' → Q .non H'
def spGr : Sp := fun vs H Q _ => ∃ (b d : Addr) (t : Tp) (l : List Tp) (y : V), vs = [.ref b, .ref d] ∧ H b = some (.tup (tupP t)) ∧ Rd H d (.dT (rowsT l y)) ∧ Q (.bl (gr l t)) H
/-- a thing that may be a triple: none, or three of its kind -/
def ItAt (ls : Str) (H : Hp) (x : V) : Option Tp → Prop
  | none => x = .non
  | some t => TpAt H x t ∧ t.1 ≤ 4 ∧ okWord ls (sW t.2.1) 12 = true ∧ okWord ls (sW t.2.2) 12 = true
theorem ItAt.keep {ls : Str} {H H' : Hp} (g : ∀ b xs, H b = some (.tup xs) → H' b = some (.tup xs)) {x : V} {o : Option Tp} (h : ItAt ls H x o) : ItAt ls H' x o := by
  cases o with
  | none => exact h
  | some t => exact ⟨h.1.keep g, h.2⟩
def spIsTri (K : PySem.W.Frag) : Sp := fun vs H Q _ => ∃ (ls : Str) (x : V) (o : Option Tp), vs = [.str ls, x] ∧ ItAt ls H x o ∧ ∀ H', Grows H H' → Q (.bl (fitO o)) H'
abbrev NTr : List Str := ["letters", "thing", "word"]
section
variable {P : Program} {w : World} {K : PySem.W.Frag} {mg : Str → Option Value} {base : Heap}
theorem scGame : FnScope ["letters", "n", "one", "other"] ["letters", "n", "one", "other"] (defScope sGame) := ⟨rfl, rfl, rfl, by decide +kernel, rfl, by decide +kernel, by decide +kernel⟩
theorem ok_game {f f1 f2 f3 CN CM CW : Addr} {fd fd1 fd2 fd3 : FuncData} (F : L2.Fun K "need_game" "need_game" sGame f fd) (B : Blt mg)
    (G1 : FnOk P w K mg base (L2.CX P w) 3 f1 fd1 ["thing"] (spNeedL K CN)) (D1 : Def mg K "need_letters" f1 fd1 ["thing"])
    (G2 : FnOk P w K mg base (L2.CX P w) 2 f2 fd2 ["thing", "least", "most"] (spNeedR K CM 0 4)) (D2 : Def mg K "need_number" f2 fd2 ["thing", "least", "most"])
    (G3 : FnOk P w K mg base (L2.CX P w) 3 f3 fd3 ["letters", "thing", "most"] (spNeedW K CW)) (D3 : DefW mg K "need_word" f3 fd3 ["letters", "thing", "most"]) (KW : KBinds K fd3 ["letters", "thing", "most"] ["most"] kw3 kw3) : FnOk P w K mg base (L2.CX P w) 4 f fd ["letters", "n", "one", "other"] (spGame K CN CM CW) := by
  refine F.okX scGame (fun vs H Q E h => ?_) (fun cdv A outer s H vs Q E hr h => ⟨_,
    (pss_cons (ps_expr (pe_call G1 (hr.mono (by decide)) (by rfl) D1.g D1.k D1.b .nil (passes_call (takes_of rfl rfl rfl rfl) fun _ _ _ _ h => h) (pa_cons (pv 0) pa_nil)))
      (pss_cons (ps_expr (pe_call G2 (hr.mono (by decide)) (by rfl) D2.g D2.k D2.b .nil (passes_call (takes_of rfl rfl rfl rfl) fun _ _ _ _ h => h) (pa_cons (pv 1) (pa_cons pe_int (pa_cons (pe_glob (v := (.int 4)) (by rfl) B.mostR.choose_spec ⟨_, rfl⟩) pa_nil)))))
      (pss_cons (ps_expr (pe_callK G3 (hr.mono (by decide)) (by rfl) D3.g D3.k KW (passes_call (takes_of rfl rfl rfl rfl) fun _ _ _ _ h => h) (pa_cons (pv 0) (pa_cons (pv 2) pa_nil)) (pk_cons (pe_glob (v := (.int 12)) (by rfl) B.longT.choose_spec ⟨_, rfl⟩) pk_nil)))
      (pss_one (ps_expr (pe_callK G3 (hr.mono (by decide)) (by rfl) D3.g D3.k KW (passes_call (takes_of rfl rfl rfl rfl) fun _ _ _ _ h => h) (pa_cons (pv 0) (pa_cons (pv 3) pa_nil)) (pk_cons (pe_glob (v := (.int 12)) (by rfl) B.longT.choose_spec ⟨_, rfl⟩) pk_nil))))))), ?_⟩)
  · obtain ⟨x, y, u, v, rfl, _⟩ := h
    rfl
  · obtain ⟨x, y, u, v, rfl, h⟩ := h
    have sz : sizeLine = 16777216 := sizeLine_eq
    refine ⟨_, rfl, x, rfl, ?_⟩
    rcases h with ⟨h | ⟨z, rfl, hz, hb⟩, e⟩ | ⟨ls, rfl, hls, hok, h⟩
    · exact .inr ⟨h, e H (Grows.refl H)⟩
    · exact .inl ⟨z, rfl, hz, fun H' g => ⟨(fun c => by rw [hb] at c; cases c), fun _ => e H' g⟩⟩
    refine .inl ⟨ls, rfl, hls, fun H1 g1 => ⟨fun _ => ?_, fun c => by rw [hok] at c; cases c⟩⟩
    refine ⟨_, rfl, y, rfl, ?_⟩
    rcases h with ⟨h, e⟩ | ⟨n, rfl, hn, h⟩
    · exact .inl ⟨h.grows g1, e H1 g1⟩
    refine .inr ⟨((n : Nat) : Int), rfl, by omega, by omega, ?_⟩
    refine ⟨_, rfl, _, rfl, ls, u, 12, rfl, ?_⟩
    rcases h with ⟨h | ⟨z, rfl, hz, hb⟩, e⟩ | ⟨z1, rfl, hz1, hw1, h⟩
    · exact .inr ⟨h.grows g1, e H1 g1⟩
    · exact .inl ⟨z, rfl, hz, fun H' g => ⟨(fun c => by rw [hb] at c; cases c), fun _ => e H' (g1.trans g)⟩⟩
    refine .inl ⟨z1, rfl, by omega, fun H2 g2 => ⟨fun _ => ?_, fun c => by rw [hw1] at c; cases c⟩⟩
    have g12 := g1.trans g2
    refine ⟨_, rfl, _, rfl, ls, v, 12, rfl, ?_⟩
    rcases h with ⟨h | ⟨z, rfl, hz, hb⟩, e⟩ | ⟨z2, rfl, hz2, hw2, q⟩
    · exact .inr ⟨h.grows g12, e H2 g12⟩
    · exact .inl ⟨z, rfl, hz, fun H' g => ⟨(fun c => by rw [hb] at c; cases c), fun _ => e H' (g12.trans g)⟩⟩
    exact .inl ⟨z2, rfl, by omega, fun H3 g3 => ⟨fun _ => q H3 (g12.trans g3), fun c => by rw [hw2] at c; cases c⟩⟩
theorem scGr : FnScope ["triple", "known"] ["triple", "known"] (defScope sGranted) := ⟨rfl, rfl, rfl, by decide +kernel, rfl, by decide +kernel, by decide +kernel⟩
theorem scLGr : FnScope ["triple", "known"] ["triple", "known"] (defScope sLawGr) := ⟨rfl, rfl, rfl, by decide +kernel, rfl, by decide +kernel, by decide +kernel⟩
theorem gr_go {b d : Addr} {t : Tp} {l : List Tp} {y : V} {H : Hp} {Q : VK} {u1 u2 : Option V} (kb : H b = some (.tup (tupP t))) (kd : Rd H d (.dT (rowsT l y))) (q : Q (.bl (gr l t)) H) :
    tOrV (tOp rEq (tOp (rIxT K) (tVar 0) (tC (.int 0))) (tC (.int 0))) (tOrV (tOp rEq (tOp (rIxT K) (tVar 0) (tC (.int 1))) (tOp (rIxT K) (tVar 0) (tC (.int 2)))) (tDIn (tVar 0) (tVar 1))) [some (.ref b), some (.ref d)] H Q := by
  have sp : SqT K H b (tupP t) := .inl (.inl kb)
  refine ⟨_, rfl, b, _, _, _, rfl, rfl, sp, atI_nat (j := 0) rfl, rfl, _, rfl, ?_⟩
  unfold gr at q
  have e0 : decide (V.int ((t.1 : Nat) : Int) = V.int 0) = decide (t.1 = 0) := by
    rw [Bool.eq_iff_iff, decide_eq_true_eq, decide_eq_true_eq]
    exact ⟨fun h => by have := V.int.inj h; omega, fun h => by rw [h]; rfl⟩
  rw [e0]
  by_cases h0 : t.1 = 0
  · rw [decide_eq_true h0] at q ⊢
    rw [if_pos rfl]
    exact q
  rw [decide_eq_false h0] at q ⊢
  rw [if_neg Bool.false_ne_true]
  refine ⟨_, rfl, b, _, _, _, rfl, rfl, sp, atI_nat (j := 1) rfl, _, rfl, b, _, _, _, rfl, rfl, sp, atI_nat (j := 2) rfl, rfl, _, rfl, ?_⟩
  have e1 : decide (V.str (sW t.2.1) = V.str (sW t.2.2)) = decide (t.2.1 = t.2.2) := by
    rw [Bool.eq_iff_iff, decide_eq_true_eq, decide_eq_true_eq]
    exact ⟨fun h => sW_inj (V.str.inj h), fun h => by rw [h]⟩
  rw [e1]
  by_cases h1 : t.2.1 = t.2.2
  · rw [decide_eq_true h1] at q ⊢
    rw [if_pos rfl]
    exact q
  rw [decide_eq_false h1] at q ⊢
  rw [if_neg Bool.false_ne_true]
  refine ⟨_, rfl, _, rfl, d, _, rfl, .inr ⟨rowsT l y, kP t, b, kd, rfl, kb, rfl⟩, ?_⟩
  rw [rowsT_val]
  exact q
theorem ok_gr {f : Addr} {fd : FuncData} (F : L2.Fun K "is_granted" "is_granted" sGranted f fd) : FnOk P w K mg base CX0 1 f fd ["triple", "known"] spGr := by
  refine F.ok scGr (fun vs H Q E h => ?_) (fun cdv A outer s H vs Q E hr h => ⟨_,
    (pss_one (ps_ret (pe_or (pe_cmpR op_eq (pe_ix ix_tup (pv 0) pe_int (fun _ _ => rfl)) pe_int (nomark _)) (pe_or (pe_cmpR op_eq (pe_ix ix_tup (pv 0) pe_int (fun _ _ => rfl)) (pe_ix ix_tup (pv 0) pe_int (fun _ _ => rfl)) (nomark _)) (pe_one (pe_cmp (pc_din (hu_of hr) (pv 0) (pv 1)) (by decide))))))), ?_⟩)
  · obtain ⟨b, d, t, l, y, rfl, _⟩ := h
    rfl
  · obtain ⟨b, d, t, l, y, rfl, kb, kd, q⟩ := h
    exact gr_go (u1 := none) (u2 := none) kb kd q
theorem ok_lgr {f : Addr} {fd : FuncData} (F : L2.Fun K "_law_bd_granted" "_law_bd_granted" sLawGr f fd) : FnOk P w K mg base CX0 1 f fd ["triple", "known"] spGr := by
  refine F.ok scLGr (fun vs H Q E h => ?_) (fun cdv A outer s H vs Q E hr h => ⟨_,
    (pss_one (ps_ret (pe_or (pe_cmpR op_eq (pe_ix ix_tup (pv 0) pe_int (fun _ _ => rfl)) pe_int (nomark _)) (pe_or (pe_cmpR op_eq (pe_ix ix_tup (pv 0) pe_int (fun _ _ => rfl)) (pe_ix ix_tup (pv 0) pe_int (fun _ _ => rfl)) (nomark _)) (pe_one (pe_cmp (pc_din (hu_of hr) (pv 0) (pv 1)) (by decide))))))), ?_⟩)
  · obtain ⟨b, d, t, l, y, rfl, _⟩ := h
    rfl
  · obtain ⟨b, d, t, l, y, rfl, kb, kd, q⟩ := h
    exact gr_go (u1 := none) (u2 := none) kb kd q
theorem scIsTri : FnScope NTr ["letters", "thing"] (defScope sIsTri) := ⟨rfl, rfl, rfl, by decide +kernel, rfl, by decide +kernel, by decide +kernel⟩
theorem ok_isTri {f fN fW : Addr} {fd fdN fdW : FuncData} (F : L2.Fun K "is_triple" "is_triple" sIsTri f fd) (B : Blt mg)
    (GN : FnOk P w K mg base CX0 1 fN fdN ["thing", "least", "most"] (spIsNum K)) (DN : Def mg K "is_number" fN fdN ["thing", "least", "most"])
    (GW : FnOk P w K mg base CX0 2 fW fdW ["letters", "thing", "most"] (spIsW K)) (DW : Def mg K "is_word_to" fW fdW ["letters", "thing", "most"]) : FnOk P w K mg base CX0 3 f fd ["letters", "thing"] (spIsTri K) := by
  refine F.ok scIsTri (fun vs H Q E h => ?_) (fun cdv A outer s H vs Q E hr h => ⟨_,
    (pss_cons (ps_if (PW.pt (pw_or (pt_not (pt_truth (pe_callB call_isi (by rfl) B.isi (by decide +kernel) (pa_cons (pv 1) (pa_cons (pe_bltn (u := .type "tuple") (v := .ty "tuple") (by rfl) B.tuple (by decide +kernel) rfl) pa_nil))) (by intro _; rfl))) (pw_or (pt_cmpR op_ne (pe_callB call_len_seq (by rfl) B.len PySem.boot_len (pa_cons (pv 1) pa_nil)) pe_int (nomark _)) (pw_or1 (pt_not (pt_truth (pe_call GN (hr.mono (by decide)) (by rfl) DN.g DN.k DN.b .nil pass0 (pa_cons (pe_ix ix_tup (pv 1) pe_int (fun _ _ => rfl)) (pa_cons pe_int (pa_cons (pe_glob (v := (.int 4)) (by rfl) B.mostR.choose_spec ⟨_, rfl⟩) pa_nil)))) (by intro _; rfl))))))) (pss_one (ps_ret pe_bl)) pss_nil)
      (pss_one (ps_ret (pe_callB (cr_all rfl) (by rfl) B.all (by decide +kernel) (pa_cons (pe_lc (own := [("word", 2)]) (g := (gName 2)) (tt := tYes) (te := (tCall (spIsW K) [] E0 (tCons (tVar 0) (tCons (tVar 2) (tCons (tC (.int 12)) tNil))))) rfl scIsTri.nd (pi_tup (pe_slice sl_tup (pv 1) (po_some pe_int) po_none)) (blkOk_by (N := NTr) (sc := defScope sIsTri) (by decide +kernel)) (fun _ _ _ _ _ => (pg_name (i := 2) scIsTri.nd rfl (Or.inl rfl))) (fun _ _ _ _ _ => pts_nil) (fun _ _ _ _ _ => (pe_call GW (hr.mono (by decide)) (by rfl) DW.g DW.k DW.b .nil pass0 (pa_cons (pv 0) (pa_cons (pv 2) (pa_cons (pe_glob (v := (.int 12)) (by rfl) B.longT.choose_spec ⟨_, rfl⟩) pa_nil)))))) pa_nil))))), ?_⟩)
  · obtain ⟨ls, x, o, rfl, _⟩ := h
    rfl
  · obtain ⟨ls, x, o, rfl, hx, q⟩ := h
    have sz : sizeLine = 16777216 := sizeLine_eq
    cases o with
    | none =>
      obtain rfl : x = .non := hx
      exact ⟨_, rfl, .non, .ty "tuple", .type "NoneType", .type "tuple", false, rfl, .ty "tuple", .base .non, kit_ty (by decide +kernel), false, rfl, if_pos_of rfl (q H (Grows.refl H))⟩
    | some t =>
    obtain ⟨⟨p, rfl, hp⟩, h4, o1, o2⟩ := hx
    have sp : SqT K H p (tupP t) := .inl (.inl hp)
    refine ⟨_, rfl, .ref p, .ty "tuple", .type "tuple", .type "tuple", true, rfl, .ty "tuple", ty_tuple sp, kit_ty (by decide +kernel), true, rfl, if_neg_of (by decide) ?_⟩
    refine ⟨_, rfl, p, _, rfl, .inr sp, rfl, _, rfl, if_neg_of (by show ¬ (!decide (V.int ((3 : Nat) : Int) = V.int 3)) = true; decide) ?_⟩
    refine ⟨_, rfl, p, _, _, _, rfl, rfl, sp, atI_nat (j := 0) rfl, _, 1, 4, rfl, .inl ⟨_, rfl, ?_⟩⟩
    have e0 : decide ((1 : Int) ≤ ((t.1 : Nat) : Int) ∧ ((t.1 : Nat) : Int) ≤ 4) = decide (1 ≤ t.1) := by
      rw [Bool.eq_iff_iff, decide_eq_true_eq, decide_eq_true_eq]
      omega
    rw [e0]
    have ef : fitO (some t) = decide (1 ≤ t.1) := rfl
    rw [ef] at q
    by_cases h1 : 1 ≤ t.1
    case neg =>
      rw [decide_eq_false h1] at q ⊢
      exact ⟨_, rfl, if_pos_of rfl (q H (Grows.refl H))⟩
    rw [decide_eq_true h1] at q ⊢
    refine ⟨_, rfl, if_neg_of (by decide) ?_⟩
    refine ⟨_, rfl, _, rfl, p, tupP t, rfl, sp, (by show ¬ (HT.sIx 3 0 (some 1) = 0 ∧ HT.sIx 3 3 none = 3); decide), fun t2 nt2 => ?_⟩
    have gt2 : Grows H (upd H t2 (.tup (cutV (tupP t) (some 1) none))) := Grows.new nt2
    have kt2 : upd H t2 (.tup (cutV (tupP t) (some 1) none)) t2 = some (.tup [.str (sW t.2.1), .str (sW t.2.2)]) := upd_same
    generalize upd H t2 (.tup (cutV (tupP t) (some 1) none)) = H2 at gt2 kt2 ⊢
    have l1 : (sW t.2.1).length ≤ 12 := by
      unfold okWord at o1
      rw [Bool.and_eq_true, decide_eq_true_eq] at o1
      omega
    have l2 : (sW t.2.2).length ≤ 12 := by
      unfold okWord at o2
      rw [Bool.and_eq_true, decide_eq_true_eq] at o2
      omega
    refine ⟨t2, rfl, ⟨_, .inl (.inl kt2)⟩, fun D nD => comp (i := 2) (te := (tCall (spIsW K) [] E0 (tCons (tVar 0) (tCons (tVar 2) (tCons (tC (.int 12)) tNil))))) (tt := tYes) (xs := [.str (sW t.2.1), .str (sW t.2.2)]) (walk_tup (K := K) (a := t2)) (fun _ => true) (fun v => .bl true) nD (fun H' g => .inl (.inl (g _ _ kt2))) (by show 2 ≤ sizeLine; omega) (fun x H k _ g hk => hk H (Grows.refl H)) (fun y H' Q hy _ g hq => ?_) (fun H3 g3 kD => ?_)⟩
    · simp only [List.mem_cons, List.not_mem_nil, or_false] at hy
      rcases hy with rfl | rfl
      · exact ⟨_, rfl, _, rfl, ls, _, _, rfl, .inl ⟨_, rfl, by omega, by rw [o1]; exact hq⟩⟩
      · exact ⟨_, rfl, _, rfl, ls, _, _, rfl, .inl ⟨_, rfl, by omega, by rw [o2]; exact hq⟩⟩
    rw [filter_yes] at kD
    have kD : H3 D = some (.lst ([true, true].map V.bl)) := kD
    exact ⟨D, _, rfl, .inl (.inl kD), q H3 (gt2.trans g3)⟩
end
end SWL
set_option Elab.async false
set_option linter.all false
set_option maxRecDepth 100000
set_option maxHeartbeats 8000000
namespace SWL
open PySem PySem.Spec PyProof.Rows L2 LamX
/-! asked_triples -/
def PrAt (H : Hp) (x : V) (p : Wl × Wl) : Prop := ∃ b, x = .ref b ∧ H b = some (.tup [.str (sW p.1), .str (sW p.2)])
abbrev PrsAt (H : Hp) : List V → List (Wl × Wl) → Prop := Paired (PrAt H)
theorem PrsAt.keep {H H' : Hp} (g : ∀ b xs, H b = some (.tup xs) → H' b = some (.tup xs)) {xs : List V} {ps : List (Wl × Wl)} (h : PrsAt H xs ps) : PrsAt H' xs ps := Paired.mapP h fun _ _ ⟨b, e, k⟩ => ⟨b, e, g _ _ k⟩
theorem paired_app {α β : Type} {R : α → β → Prop} {xs ys : List α} {ts us : List β} (h : Paired R xs ts) (k : Paired R ys us) : Paired R (xs ++ ys) (ts ++ us) := by
  induction h with
  | nil => exact k
  | cons h t ih => exact .cons h ih
theorem paired_idx {α β : Type} {R : α → β → Prop} {xs : List α} {ts : List β} (h : Paired R xs ts) : ∀ {i : Nat} {x : α}, xs[i]? = some x → ∃ t, ts[i]? = some t ∧ R x t := by
  induction h with
  | nil => intro i x e; simp at e
  | cons h t ih =>
    intro i x e
    cases i with
    | zero => exact ⟨_, rfl, by rw [← Option.some.inj e]; exact h⟩
    | succ i => exact ih e
/-- the keeper, and the pairs that have been asked for -/
def AsI (P : Program) (w : World) (C : Addr) (U : List Wl) (H : Hp) (x a b : Addr) (L : List LotK) (D : Addr) (ps : List (Wl × Wl)) (H' : Hp) : Prop :=
  ∃ (M' : Met) (L' : List LotK) (xs : List V), More P w C U H H' x a b L M' L' ∧ H' D = some (.lst xs) ∧ PrsAt H' xs ps
theorem AsI.add {P : Program} {w : World} {C : Addr} {U : List Wl} {H H2 H3 H4 : Hp} {x a b D p1 p2 : Addr} {L L2 L3 : List LotK} {M2 M3 : Met} {xs : List V} {ps : List (Wl × Wl)} {q1 q2 : Wl × Wl} (mo2 : More P w C U H H2 x a b L M2 L2) (pr : PrsAt H2 xs ps) (nD : H D = none) (kD : H4 D = some (.lst xs)) (mo3 : More P w C U H2 H3 x a b L2 M3 L3) (g4 : Grows H3 H4)
    (k1 : PrAt H4 (.ref p1) q1) (k2 : PrAt H4 (.ref p2) q2) : AsI P w C U H x a b L D (ps ++ [q1, q2]) (upd H4 D (.lst (xs ++ [.ref p1, .ref p2]))) := by
  have t4 := mo3.at_.grows g4
  have tp : ∀ c ys, H2 c = some (.tup ys) → H4 c = some (.tup ys) := fun c ys e => g4 _ _ (mo2.at_.tups mo3.but c ys e)
  have off : ∀ c ys, H4 c = some (.tup ys) → upd H4 D (.lst (xs ++ [.ref p1, .ref p2])) c = some (.tup ys) := fun c ys e => by
    rw [upd_ne (ne_of e kD (by intro z; cases z))]
    exact e
  refine ⟨M3, L3, _, ⟨t4.off kD, mo3.few, fun k l e => mo3.ext k l (mo2.ext k l e), fun p o e pa pb => ?_, mo3.known⟩, upd_same, ?_⟩
  · rw [upd_ne (ne_of_none e nD)]
    exact g4 _ _ (mo3.but p o (mo2.but p o e pa pb) pa pb)
  · exact paired_app ((pr.keep tp).keep off) (PrsAt.keep off (.cons k1 (.cons k2 .nil)))
def spAsked (P : Program) (w : World) (C : Addr) : Sp := fun vs H Q _ => ∃ (x a b tr : Addr) (M : Met) (L : List LotK) (n : Nat) (u v : Wl) (U : List Wl), vs = [.ref x, .ref tr] ∧ H tr = some (.tup (tupP (n + 1, u, v))) ∧ n + 1 ≤ 4 ∧ TyAt P w C H x a b M L ∧ L.length ≤ M.length ∧ Known U M ∧ u.length ≤ 12 ∧ v.length ≤ 12 ∧ u ∈ U ∧ v ∈ U ∧ Cut U ∧ U.length ≤ 100000 ∧ Same (n + 1) u v ∧
  ∀ (H' : Hp) (M' : Met) (L' : List LotK) (D : Addr) (xs : List V), More P w C U H H' x a b L M' L' → H D = none → H' D = some (.lst xs) → TpsAt H' xs ((asks n u v).map fun p => (n, p.1, p.2)) → Q (.ref D) H'
abbrev NAs : List Str := ["types", "triple", "n", "one", "other", "pairs", "at", "first", "second"]
section
variable {P : Program} {w : World} {K : PySem.W.Frag} {mg : Str → Option Value} {base : Heap}
theorem scAsked : FnScope NAs ["types", "triple"] (defScope sAsked) := ⟨rfl, rfl, rfl, by decide +kernel, rfl, by decide +kernel, by decide +kernel⟩
theorem ok_asked {f fL fP C : Addr} {fd fdL fdP : FuncData} (F : L2.Fun K "asked_triples" "asked_triples" sAsked f fd) (B : Blt mg)
    (GL : FnOk P w K mg base CX0 19 fL fdL ["types", "n", "mine", "at", "its"] (spLeastA P w C)) (DL : Def mg K "least_answer" fL fdL ["types", "n", "mine", "at", "its"])
    (GP : FnOk P w K mg base CX0 1 fP fdP ["one", "at", "other", "there"] spParts) (DP : Def mg K "parts_at" fP fdP ["one", "at", "other", "there"]) : FnOk P w K mg base CX0 20 f fd ["types", "triple"] (spAsked P w C) := by
  refine F.ok scAsked (fun vs H Q E h => ?_) (fun cdv A outer s H vs Q E hr h => ⟨_,
    (pss_cons (ps_asg (pv 1) (pg_tup rfl (pgs_cons (pg_name (i := 2) scAsked.nd rfl (Or.inr rfl)) (pgs_cons (pg_name (i := 3) scAsked.nd rfl (Or.inl rfl)) (pgs_cons (pg_name (i := 4) scAsked.nd rfl (Or.inl rfl)) pgs_nil)))))
      (pss_cons (ps_set (i := 5) scAsked.nd rfl (Or.inl rfl) (pe_lst pa_nil))
      (pss_cons (ps_for PassesOwn.never rfl (pi_range1 (by rfl) B.range (pa_cons (pe_callB call_len_str (by rfl) B.len PySem.boot_len (pa_cons (pv 3) pa_nil)) pa_nil)) (pg_name (i := 6) scAsked.nd rfl (Or.inl rfl)) (pss_one (ps_expr (pe_bm PySem.F.plainAttrs_list PySem.F.slot_list_extend PySem.F.type_list_extend mt_extendT (pv 5) (pa_cons (pe_call GP (hr.mono (by decide)) (by rfl) DP.g DP.k DP.b .nil pass0 (pa_cons (pv 3) (pa_cons (pv 6) (pa_cons (pv 4) (pa_cons (pe_call GL (hr.mono (by decide)) (by rfl) DL.g DL.k DL.b .nil pass0 (pa_cons (pv 0) (pa_cons (pv 2) (pa_cons (pv 3) (pa_cons (pv 6) (pa_cons (pv 4) pa_nil)))))) pa_nil))))) pa_nil)))))
      (pss_cons (ps_for PassesOwn.never rfl (pi_range1 (by rfl) B.range (pa_cons (pe_callB call_len_str (by rfl) B.len PySem.boot_len (pa_cons (pv 4) pa_nil)) pa_nil)) (pg_name (i := 6) scAsked.nd rfl (Or.inl rfl)) (pss_one (ps_expr (pe_bm PySem.F.plainAttrs_list PySem.F.slot_list_extend PySem.F.type_list_extend mt_extendT (pv 5) (pa_cons (pe_call GP (hr.mono (by decide)) (by rfl) DP.g DP.k DP.b .nil pass0 (pa_cons (pv 3) (pa_cons (pe_call GL (hr.mono (by decide)) (by rfl) DL.g DL.k DL.b .nil pass0 (pa_cons (pv 0) (pa_cons (pv 2) (pa_cons (pv 4) (pa_cons (pv 6) (pa_cons (pv 3) pa_nil)))))) (pa_cons (pv 4) (pa_cons (pv 6) pa_nil))))) pa_nil)))))
      (pss_one (ps_ret (pe_lc (own := [("first", 7), ("second", 8)]) (g := (gTup K 2 (gCons (gName 7) (gCons (gName 8) gNil)))) (tt := tYes) (te := (tTup (tCons (tOp rSub (tVar 2) (tC (.int 1))) (tCons (tVar 7) (tCons (tVar 8) tNil))))) rfl scAsked.nd (pi_list (pv 5)) (blkOk_by (N := NAs) (sc := defScope sAsked) (by decide +kernel)) (fun _ _ _ _ _ => (pg_tup rfl (pgs_cons (pg_name (i := 7) scAsked.nd rfl (Or.inl rfl)) (pgs_cons (pg_name (i := 8) scAsked.nd rfl (Or.inl rfl)) pgs_nil)))) (fun _ _ _ _ _ => pts_nil) (fun _ _ _ _ _ => (pe_tup (pa_cons (pe_op op_sub (pv 2) pe_int) (pa_cons (pv 7) (pa_cons (pv 8) pa_nil)))))))))))), ?_⟩)
  · obtain ⟨x, a, b, tr, M, L, n, u, v, U, rfl, _⟩ := h
    rfl
  · obtain ⟨x, a, b, tr, M, L, n, u, v, U, rfl, ktr, hn, t, hLM, kM, lu, lv, uU, vU, cU, lU, hs, q⟩ := h
    have sz : sizeLine = 16777216 := sizeLine_eq
    have su : (sW u).cps.toList = u := sW_cps u
    have sv : (sW v).cps.toList = v := sW_cps v
    have lsu : (sW u).length = u.length := sW_len u
    have lsv : (sW v).length = v.length := sW_len v
    refine ⟨_, rfl, tr, _, rfl, .inl (.inl ktr), rfl, _, _, rfl, _, _, rfl, _, _, rfl, rfl, ?_⟩
    refine ⟨by show 0 ≤ sizeLine; omega, fun D nD => ?_⟩
    have i0 : AsI P w C U H x a b L D (askTo n u v 0) (upd H D (.lst [])) := ⟨M, L, [], ⟨t.grows (Grows.new nD), hLM, fun _ _ e => e, But.of (Grows.new nD), kM⟩, upd_same, .nil⟩
    generalize upd H D (.lst []) = H1 at i0 ⊢
    refine ⟨_, rfl, (sW u), rfl, (by show (sW u).length ≤ sizeLine; omega), _, rfl, by omega, (by show (((sW u).length : Nat) : Int) < 2 ^ 62; omega), for_it walk_range (fun i σ H' => (∃ w6 w7 w8 : Option V, σ = [some (.ref x), some (.ref tr), some (.int ((n + 1 : Nat) : Int)), some (.str (sW u)), some (.str (sW v)), some (.ref D), w6, w7, w8]) ∧ AsI P w C U H x a b L D (askTo n u v i) H')
      ⟨⟨none, none, none, rfl⟩, i0⟩ (fun _ _ _ _ _ => trivial) ?_ ?_⟩
    · rintro i y σ H2 H2' hi ⟨⟨w6, w7, w8, rfl⟩, M2, L2, xs, mo2, kD2, pr2⟩ ⟨rfl, rfl⟩
      have hi : i < u.length := by rw [← lsu]; simpa using hi
      obtain ⟨c, hc⟩ : ∃ c, u[i]? = some c := ⟨_, List.getElem?_eq_getElem hi⟩
      have i0' : ((0 : Int) + (i : Int)) = ((i : Nat) : Int) := by omega
      show gName 6 (.int ((0 : Int) + (i : Int))) _ _ _
      rw [i0']
      have Da : D ≠ a := fun e => by have := mo2.at_.met; rw [← e, kD2] at this; cases this
      have Db : D ≠ b := fun e => by
        obtain ⟨rows, hb, _⟩ := mo2.at_.lots
        rw [← e, kD2] at hb
        cases hb
      refine ⟨_, rfl, .inl ⟨rfl, _, .inl (.inl kD2)⟩, _, rfl, _, rfl, _, rfl, _, rfl, _, rfl, _, rfl, _, rfl, _, rfl, x, a, b, M2, L2, n, sW u, sW v, i, c, U, rfl, by omega, mo2.at_, mo2.few, mo2.known, by omega, by omega, by rw [su]; exact uU, by rw [sv]; exact vU, cU, lU, by rw [su]; exact hc, fun H3 M3 L3 mo3 => ?_⟩
      rw [su, sv]
      obtain ⟨j, hj⟩ : ∃ j, ansN n u v i c = some j := by
        cases e : ansN n u v i c with
        | none => exact absurd e (ansN_ne.mpr (hs.1 i c hc))
        | some j => exact ⟨j, rfl⟩
      rw [hj]
      have jl := (List.getElem?_eq_some_iff.mp (ansN_some hj).1).1
      refine ⟨sW u, sW v, i, j, rfl, by omega, by omega, by omega, by omega, fun H4 tt p1 p2 x1 x2 y1 y2 g4 ktt kp1 kp2 ex1 ex2 ey1 ey2 => ?_⟩
      rw [su] at ex1 ey1
      rw [sv] at ex2 ey2
      rw [sW_eq ex1, sW_eq ex2] at kp1
      rw [sW_eq ey1, sW_eq ey2] at kp2
      have kD4 := g4 _ _ (mo3.but D _ kD2 Da Db)
      have hx : xs.length ≤ 24 := by
        have h1 := Paired.length pr2
        have h2 := askTo_len n u v i
        omega
      refine ⟨D, tt, xs, _, rfl, rfl, kD4, ktt, by show xs.length + 2 ≤ sizeLine; omega, ⟨⟨_, _, _, rfl⟩, ?_⟩⟩
      rw [askTo_succ]
      have eo : askOf n u v i = [(u.take i, v.take j), (u.drop (i + 1), v.drop (j + 1))] := by
        unfold askOf
        rw [hc]
        show (match ansN n u v i c with | none => [] | some j => [(u.take i, v.take j), (u.drop (i + 1), v.drop (j + 1))]) = _
        rw [hj]
      rw [eo]
      exact AsI.add mo2 pr2 nD kD4 mo3 g4 ⟨p1, rfl, kp1⟩ ⟨p2, rfl, kp2⟩
    rintro σ H2 ⟨⟨w6, w7, w8, rfl⟩, i2⟩
    have i2 : AsI P w C U H x a b L D (askTo n u v u.length ++ (askTo n v u 0).map Prod.swap) H2 := by
      have e : (sW u).length = u.length := lsu
      rw [e] at i2
      simpa [askTo] using i2
    refine ⟨_, rfl, (sW v), rfl, (by show (sW v).length ≤ sizeLine; omega), _, rfl, by omega, (by show (((sW v).length : Nat) : Int) < 2 ^ 62; omega), for_it walk_range (fun i σ H' => (∃ w6 w7 w8 : Option V, σ = [some (.ref x), some (.ref tr), some (.int ((n + 1 : Nat) : Int)), some (.str (sW u)), some (.str (sW v)), some (.ref D), w6, w7, w8]) ∧ AsI P w C U H x a b L D (askTo n u v u.length ++ (askTo n v u i).map Prod.swap) H')
      ⟨⟨_, _, _, rfl⟩, i2⟩ (fun _ _ _ _ _ => trivial) ?_ ?_⟩
    · rintro i y σ H2 H2' hi ⟨⟨w6, w7, w8, rfl⟩, M2, L2, xs, mo2, kD2, pr2⟩ ⟨rfl, rfl⟩
      have hi : i < v.length := by rw [← lsv]; simpa using hi
      obtain ⟨c, hc⟩ : ∃ c, v[i]? = some c := ⟨_, List.getElem?_eq_getElem hi⟩
      have i0' : ((0 : Int) + (i : Int)) = ((i : Nat) : Int) := by omega
      show gName 6 (.int ((0 : Int) + (i : Int))) _ _ _
      rw [i0']
      have Da : D ≠ a := fun e => by have := mo2.at_.met; rw [← e, kD2] at this; cases this
      have Db : D ≠ b := fun e => by
        obtain ⟨rows, hb, _⟩ := mo2.at_.lots
        rw [← e, kD2] at hb
        cases hb
      refine ⟨_, rfl, .inl ⟨rfl, _, .inl (.inl kD2)⟩, _, rfl, _, rfl, _, rfl, _, rfl, _, rfl, _, rfl, x, a, b, M2, L2, n, sW v, sW u, i, c, U, rfl, by omega, mo2.at_, mo2.few, mo2.known, by omega, by omega, by rw [sv]; exact vU, by rw [su]; exact uU, cU, lU, by rw [sv]; exact hc, fun H3 M3 L3 mo3 => ?_⟩
      rw [su, sv]
      obtain ⟨j, hj⟩ : ∃ j, ansN n v u i c = some j := by
        cases e : ansN n v u i c with
        | none => exact absurd e (ansN_ne.mpr ((same_symm _ hs).1 i c hc))
        | some j => exact ⟨j, rfl⟩
      rw [hj]
      have jl := (List.getElem?_eq_some_iff.mp (ansN_some hj).1).1
      refine ⟨_, rfl, _, rfl, sW u, sW v, j, i, rfl, by omega, by omega, by omega, by omega, fun H4 tt p1 p2 x1 x2 y1 y2 g4 ktt kp1 kp2 ex1 ex2 ey1 ey2 => ?_⟩
      rw [su] at ex1 ey1
      rw [sv] at ex2 ey2
      rw [sW_eq ex1, sW_eq ex2] at kp1
      rw [sW_eq ey1, sW_eq ey2] at kp2
      have kD4 := g4 _ _ (mo3.but D _ kD2 Da Db)
      have hx : xs.length ≤ 48 := by
        have h1 := Paired.length pr2
        rw [List.length_append, List.length_map] at h1
        have h2 := askTo_len n u v u.length
        have h3 := askTo_len n v u i
        omega
      refine ⟨D, tt, xs, _, rfl, rfl, kD4, ktt, by show xs.length + 2 ≤ sizeLine; omega, ⟨⟨_, _, _, rfl⟩, ?_⟩⟩
      have eo : askOf n v u i = [(v.take i, u.take j), (v.drop (i + 1), u.drop (j + 1))] := by
        unfold askOf
        rw [hc]
        show (match ansN n v u i c with | none => [] | some j => [(v.take i, u.take j), (v.drop (i + 1), u.drop (j + 1))]) = _
        rw [hj]
      rw [askTo_succ, eo, List.map_append, ← List.append_assoc]
      exact AsI.add (q1 := (u.take j, v.take i)) (q2 := (u.drop (j + 1), v.drop (i + 1))) mo2 pr2 nD kD4 mo3 g4 ⟨p1, rfl, kp1⟩ ⟨p2, rfl, kp2⟩
    rintro σ H2 ⟨⟨w6, w7, w8, rfl⟩, i3⟩
    have i3 : AsI P w C U H x a b L D (asks n u v) H2 := by
      have e : (sW v).length = v.length := lsv
      rw [e] at i3
      exact i3
    obtain ⟨M2, L2, xs, mo2, kD2, pr2⟩ := i3
    have hx : xs.length ≤ 48 := by
      have h1 := Paired.length pr2
      have h2 := asks_len n u v
      omega
    have Da : D ≠ a := fun e => by have := mo2.at_.met; rw [← e, kD2] at this; cases this
    refine ⟨_, rfl, D, rfl, ⟨_, .inl (.inl kD2)⟩, fun D2 nD2 => ?_⟩
    have D2a : H D2 = none := by
      cases e : H D2 with
      | none => rfl
      | some o =>
        exfalso
        by_cases e1 : D2 = a
        · rw [e1, mo2.at_.met] at nD2; cases nD2
        by_cases e2 : D2 = b
        · obtain ⟨rows, hb, _⟩ := mo2.at_.lots
          rw [e2, hb] at nD2
          cases nD2
        · rw [mo2.but D2 o e e1 e2] at nD2; cases nD2
    have ps_get : ∀ {k : Nat} {y : V}, xs[k]? = some y → ∃ p, (asks n u v)[k]? = some p ∧ PrAt H2 y p := fun h => paired_idx pr2 h
    refine lc_it (walk_list (K := K) (a := D) (xs := xs)) (fun k H' => Grows H2 H' ∧ ∃ ys, H' D2 = some (.lst ys) ∧ TpsAt H' ys (((asks n u v).take k).map fun p => (n, p.1, p.2)))
      ⟨Grows.new nD2, [], upd_same, .nil⟩ (fun k H' _ p => .inl (.inl (p.1 _ _ kD2))) ?_ ?_
    · rintro k y H3 H4 hk ⟨g3, ys, kD3, pr3⟩ ⟨rfl, hy⟩
      obtain ⟨p, hp, b1, rfl, kb1⟩ := ps_get hy
      have hys : ys.length ≤ 48 := by
        have h1 := Paired.length pr3
        rw [List.length_map, List.length_take] at h1
        have h2 := asks_len n u v
        omega
      refine ⟨b1, _, rfl, .inl (.inl (g3 _ _ kb1)), rfl, _, _, rfl, _, _, rfl, rfl, rfl, ?_⟩
      refine ⟨_, rfl, _, _, rfl, rfl, _, rfl, _, rfl, by show 3 ≤ sizeLine; omega, fun t3 nt3 => ?_⟩
      have n1 : (((n + 1 : Nat) : Int) - 1) = ((n : Nat) : Int) := by omega
      rw [n1]
      have g4 : Grows H4 (upd H4 t3 (.tup [.int ((n : Nat) : Int), .str (sW p.1), .str (sW p.2)])) := Grows.new nt3
      have k4 : upd H4 t3 (.tup [.int ((n : Nat) : Int), .str (sW p.1), .str (sW p.2)]) t3 = some (.tup (tupP (n, p.1, p.2))) := upd_same
      generalize upd H4 t3 (.tup [.int ((n : Nat) : Int), .str (sW p.1), .str (sW p.2)]) = H5 at g4 k4 ⊢
      have kD5 := g4 _ _ kD3
      have off : ∀ c zs, H5 c = some (.tup zs) → upd H5 D2 (.lst (ys ++ [.ref t3])) c = some (.tup zs) := fun c zs e => by
        rw [upd_ne (ne_of e kD5 (by intro z; cases z))]
        exact e
      refine ⟨ys, kD5, by omega, fun c o e => ?_, ys ++ [.ref t3], upd_same, ?_⟩
      · rw [upd_ne (ne_of_none e nD2)]
        exact g4 _ _ (g3 _ _ e)
      · rw [take_snoc hp, List.map_append]
        exact tps_app ((pr3.keep fun c zs e => g4 _ _ e).keep off) (.cons ⟨t3, rfl, off _ _ k4⟩ .nil)
    · rintro H3 ⟨g3, ys, kD3, pr3⟩
      have e : (asks n u v).take xs.length = asks n u v := by rw [Paired.length pr2, List.take_length]
      rw [e] at pr3
      exact q H3 M2 L2 D2 ys ⟨mo2.at_.grows g3, mo2.few, mo2.ext, fun p o e pa pb => g3 _ _ (mo2.but p o e pa pb), mo2.known⟩ D2a kD3 pr3
end
end SWL
set_option Elab.async false
set_option linter.all false
set_option maxRecDepth 100000
set_option maxHeartbeats 8000000
namespace SWL
open PySem PySem.Spec PyProof.Rows L2 LamX
/-! bond -/
def sumW (ws : List Tp) : Nat := (ws.map fun t => wW 24 t.1).sum
theorem sumW_app (a b : List Tp) : sumW (a ++ b) = sumW a + sumW b := by
  unfold sumW
  rw [List.map_append, List.sum_append]
theorem wW_pos (s : Nat) : ∀ n, 1 ≤ wW s n
  | 0 => Nat.le_refl _
  | n + 1 => by
    show 1 ≤ 1 + 2 * s * wW s n
    omega
theorem sumW_len : ∀ ws : List Tp, ws.length ≤ sumW ws
  | [] => Nat.le_refl _
  | t :: ws => by
    have h1 := sumW_len ws
    have h2 := wW_pos 24 t.1
    show ws.length + 1 ≤ wW 24 t.1 + sumW ws
    omega
theorem sumW_const (n : Nat) : ∀ ps : List (Wl × Wl), sumW (ps.map fun p => (n, p.1, p.2)) = ps.length * wW 24 n
  | [] => by simp [sumW]
  | p :: ps => by
    show wW 24 n + sumW (ps.map fun p => (n, p.1, p.2)) = _
    rw [sumW_const n ps, List.length_cons, Nat.succ_mul, Nat.add_comm]
theorem wW_mono (s : Nat) {n m : Nat} (h : n ≤ m) : wW s n ≤ wW s (m + 1) := by
  have step : ∀ n, 1 ≤ s → wW s n ≤ wW s (n + 1) := fun n hs => by
    show wW s n ≤ 1 + 2 * s * wW s n
    have : wW s n ≤ 2 * s * wW s n := Nat.le_mul_of_pos_left _ (by omega)
    omega
  by_cases hs : 1 ≤ s
  · induction m with
    | zero =>
      obtain rfl : n = 0 := Nat.le_zero.mp h
      exact step 0 hs
    | succ m ih =>
      by_cases e : n = m + 1
      · subst e; exact step _ hs
      · exact Nat.le_trans (ih (by omega)) (step _ hs)
  · obtain rfl : s = 0 := by omega
    cases n with
    | zero => show 1 ≤ 1 + 2 * 0 * wW 0 m; omega
    | succ n => show 1 + 2 * 0 * wW 0 n ≤ 1 + 2 * 0 * wW 0 m; omega
theorem word_small {ls : Str} {w : Wl} (ok : okLetters ls = true) (h : ∀ c ∈ w, c ∈ ls.cps.toList) : ∀ c ∈ w, c < 0x110000 := fun c hc => by
  unfold okLetters at ok
  simp only [Bool.and_eq_true] at ok
  have h1 := of_decide_eq_true (List.all_eq_true.mp ok.2.1 c (h c hc))
  have small : ∀ d ∈ smallS.cps.toList, d < 128 := by decide +kernel
  have := small c h1
  omega
theorem okWord_mem {ls z : Str} {m : Int} (h : okWord ls z m = true) : ∀ c ∈ z.cps.toList, c ∈ ls.cps.toList := fun c hc => by
  unfold okWord at h
  rw [Bool.and_eq_true, List.all_eq_true] at h
  exact of_decide_eq_true (h.2 c hc)
/-- what a triple on the way is: of words of the letters, alike, and all that it reaches the first reaches -/
structure Way (ls : Str) (U : List Wl) (n : Nat) (u0 v0 : Wl) (t : Tp) : Prop where
  le : t.1 ≤ n
  same : Same t.1 t.2.1 t.2.2
  l1 : t.2.1.length ≤ 12
  l2 : t.2.2.length ≤ 12
  i1 : t.2.1 ∈ U
  i2 : t.2.2 ∈ U
  c1 : ∀ c ∈ t.2.1, c ∈ ls.cps.toList
  c2 : ∀ c ∈ t.2.2, c ∈ ls.cps.toList
  sub : ∀ s ∈ treeN t.1 t.2.1 t.2.2, s ∈ treeN n u0 v0
theorem Way.step {ls : Str} {U : List Wl} {n : Nat} {u0 v0 : Wl} {m : Nat} {x y : Wl} (cU : Cut U) (w : Way ls U n u0 v0 (m + 1, x, y)) (ne : x ≠ y) {p : Wl × Wl} (hp : p ∈ asks m x y) : Way ls U n u0 v0 (m, p.1, p.2) := by
  have hs : Same (m + 1) x y := w.same
  have cl : CutP fun w => w.length ≤ 12 := fun w hw i => ⟨by show (w.take i).length ≤ 12; rw [List.length_take]; have : w.length ≤ 12 := hw; omega, by show (w.drop i).length ≤ 12; rw [List.length_drop]; have : w.length ≤ 12 := hw; omega⟩
  have cc : CutP fun w => ∀ c ∈ w, c ∈ ls.cps.toList := fun w hw i => ⟨fun c hc => hw c (List.mem_of_mem_take hc), fun c hc => hw c (List.mem_of_mem_drop hc)⟩
  obtain ⟨a1, a2⟩ := asks_cut cl hp w.l1 w.l2
  obtain ⟨b1, b2⟩ := asks_cut (W := fun w => w ∈ U) (fun w hw i => cU w hw i) hp w.i1 w.i2
  obtain ⟨d1, d2⟩ := asks_cut cc hp w.c1 w.c2
  refine ⟨by have : m + 1 ≤ n := w.le; show m ≤ n; omega, (asks_mem hp).1, a1, a2, b1, b2, d1, d2, fun s hs => ?_⟩
  exact tree_sub n (w.sub _ (tree_self ne)) p hp s hs
theorem Way.ok {ls : Str} {U : List Wl} {n : Nat} {u0 v0 : Wl} {t : Tp} (ok : okLetters ls = true) (hn : n ≤ 4) (w : Way ls U n u0 v0 t) : okTp t := ⟨by have := w.le; omega, w.l1, w.l2, word_small ok w.c1, word_small ok w.c2⟩
/-- found l, waiting ws -/
structure OnWay (ls : Str) (U : List Wl) (n : Nat) (u0 v0 : Wl) (l ws : List Tp) : Prop where
  nd : l.Nodup
  inL : ∀ t ∈ l, t ∈ treeN n u0 v0
  inW : ∀ t ∈ ws, Way ls U n u0 v0 t
  root : gr l (n, u0, v0) = true ∨ (n, u0, v0) ∈ ws
  cl : ∀ m x y, (m + 1, x, y) ∈ l → ∀ p ∈ asks m x y, gr l (m, p.1, p.2) = true ∨ (m, p.1, p.2) ∈ ws
theorem gr_more {l : List Tp} {t s : Tp} (h : gr l s = true) : gr (l ++ [t]) s = true := by
  rw [gr_iff] at h ⊢
  rcases h with h | h | h
  · exact .inl h
  · exact .inr (.inl h)
  · exact .inr (.inr (List.mem_append_left _ h))
theorem OnWay.skip {ls : Str} {U : List Wl} {n : Nat} {u0 v0 : Wl} {l ws : List Tp} {t : Tp} (o : OnWay ls U n u0 v0 l (ws ++ [t])) (h : gr l t = true) : OnWay ls U n u0 v0 l ws := by
  have out : ∀ s, gr l s = true ∨ s ∈ ws ++ [t] → gr l s = true ∨ s ∈ ws := fun s hs => by
    rcases hs with q | q
    · exact .inl q
    · rcases List.mem_append.mp q with q | q
      · exact .inr q
      · rw [List.mem_singleton.mp q]; exact .inl h
  exact ⟨o.nd, o.inL, fun s hs => o.inW s (List.mem_append_left _ hs), out _ o.root, fun m x y hx p hp => out _ (o.cl m x y hx p hp)⟩
theorem OnWay.put {ls : Str} {U : List Wl} {n : Nat} {u0 v0 : Wl} {l ws : List Tp} {m : Nat} {x y : Wl} (cU : Cut U) (o : OnWay ls U n u0 v0 l (ws ++ [(m + 1, x, y)])) (ne : x ≠ y) (no : (m + 1, x, y) ∉ l) :
    OnWay ls U n u0 v0 (l ++ [(m + 1, x, y)]) (ws ++ (asks m x y).map fun p => (m, p.1, p.2)) := by
  have w := o.inW _ (List.mem_append_right _ (List.mem_singleton.mpr rfl))
  have out : ∀ s, gr l s = true ∨ s ∈ ws ++ [(m + 1, x, y)] → gr (l ++ [(m + 1, x, y)]) s = true ∨ s ∈ ws ++ (asks m x y).map fun p => (m, p.1, p.2) := fun s hs => by
    rcases hs with q | q
    · exact .inl (gr_more q)
    · rcases List.mem_append.mp q with q | q
      · exact .inr (List.mem_append_left _ q)
      · rw [List.mem_singleton.mp q]
        exact .inl (gr_iff.mpr (.inr (.inr (List.mem_append_right _ (List.mem_singleton.mpr rfl)))))
  refine ⟨?_, fun t ht => ?_, fun t ht => ?_, out _ o.root, fun m' x' y' hx p hp => ?_⟩
  · rw [List.nodup_append]
    refine ⟨o.nd, by simp, fun a ha b hb e => no ?_⟩
    rw [← List.mem_singleton.mp hb, ← e]
    exact ha
  · rcases List.mem_append.mp ht with h | h
    · exact o.inL t h
    · rw [List.mem_singleton.mp h]
      exact w.sub _ (tree_self ne)
  · rcases List.mem_append.mp ht with h | h
    · exact o.inW t (List.mem_append_left _ h)
    · obtain ⟨p, hp, rfl⟩ := List.mem_map.mp h
      exact w.step cU ne hp
  · rcases List.mem_append.mp hx with h | h
    · exact out _ (o.cl m' x' y' h p hp)
    · have e := List.mem_singleton.mp h
      have e1 : m' = m := by have := (Prod.mk.inj e).1; omega
      have e2 := (Prod.mk.inj (Prod.mk.inj e).2).1
      have e3 := (Prod.mk.inj (Prod.mk.inj e).2).2
      subst e1 e2 e3
      exact .inr (List.mem_append_right _ (List.mem_map.mpr ⟨p, hp, rfl⟩))
theorem OnWay.done {ls : Str} {U : List Wl} {n : Nat} {u0 v0 : Wl} {l : List Tp} (o : OnWay ls U n u0 v0 l []) : ∀ t, t ∈ l ↔ t ∈ treeN n u0 v0 := fun t => by
  refine ⟨o.inL t, fun ht => ?_⟩
  have out : ∀ s, gr l s = true ∨ s ∈ ([] : List Tp) → s.1 = 0 ∨ s.2.1 = s.2.2 ∨ s ∈ l := fun s hs => gr_iff.mp (hs.resolve_right List.not_mem_nil)
  exact tree_in (R := fun s => s ∈ l) (fun m x y hx p hp => out _ (o.cl m x y hx p hp)) n (out _ o.root) t ht
/-- things sorted that are triples -/
theorem tps_of {H : Hp} {l : List Tp} : ∀ {qs : List (Addr × List Key)}, (∀ q ∈ qs, H q.1 = some (.tup (q.2.map kV))) → (∀ q ∈ qs, q.2 ∈ l.map kP) → ∃ ts : List Tp, ts.map kP = qs.map (·.2) ∧ TpsAt H (qs.map fun q => V.ref q.1) ts
  | [], _, _ => ⟨[], rfl, .nil⟩
  | q :: qs, h, k => by
    obtain ⟨ts, e, p⟩ := tps_of (qs := qs) (fun x hx => h x (List.mem_cons_of_mem _ hx)) fun x hx => k x (List.mem_cons_of_mem _ hx)
    obtain ⟨t, _, et⟩ := List.mem_map.mp (k q List.mem_cons_self)
    refine ⟨t :: ts, by rw [List.map_cons, List.map_cons, e, et], .cons ⟨q.1, rfl, ?_⟩ p⟩
    have := h q List.mem_cons_self
    rw [← et] at this
    exact this
def spBond (K : PySem.W.Frag) (CN CM CW : Addr) : Sp := fun vs H Q E => ∃ x y u v, vs = [x, y, u, v] ∧ GameP K CN CM CW H E x y u v fun ls n z1 z2 => (¬ Same n z1.cps.toList z2.cps.toList → ∀ H', Grows H H' → Q .non H') ∧ (Same n z1.cps.toList z2.cps.toList →
  ∀ (H' : Hp) (p : Addr) (xs : List V) (ts : List Tp), Grows H H' → H p = none → H' p = some (.lst xs) → TpsAt H' xs ts → ts.Pairwise LtP → (∀ t, t ∈ ts ↔ t ∈ treeN n z1.cps.toList z2.cps.toList) → Q (.ref p) H')
abbrev NBo : List Str := ["letters", "n", "one", "other", "types", "found", "waiting", "triple"]
theorem TyAt.offT {P : Program} {w : World} {C x a b D : Addr} {H : Hp} {M : Met} {L : List LotK} {ys zs : List (List Key × V)} (t : TyAt P w C H x a b M L) (hD : H D = some (.dT ys)) (Da : D ≠ a) : TyAt P w C (upd H D (.dT zs)) x a b M L := by
  obtain ⟨dx, h1⟩ := t.obj
  obtain ⟨rows, h2, _⟩ := t.lots
  refine t.keep (fun c hc o e => ?_) fun c xs e => ?_
  · have n : c ≠ D := by
      rcases hc with rfl | rfl | rfl
      · exact ne_of h1 hD (by intro z; cases z)
      · exact Da.symm
      · exact ne_of h2 hD (by unfold NDO; intro z; cases z)
    rw [upd_ne n]
    exact e
  · rw [upd_ne (ne_of e hD (by intro z; cases z))]
    exact e
/-- the heap of the walk -/
structure BoH (P : Program) (w : World) (C : Addr) (U : List Wl) (H H' : Hp) (x a b Fd Wt : Addr) (l ws : List Tp) : Prop where
  ty : ∃ (M : Met) (L : List LotK), TyAt P w C H' x a b M L ∧ L.length ≤ M.length ∧ Known U M
  gr : Grows H H'
  fo : H' Fd = some (.dT (rowsT l (.bl true)))
  wa : ∃ xs, H' Wt = some (.lst xs) ∧ TpsAt H' xs ws
section
variable {P : Program} {w : World} {K : PySem.W.Frag} {mg : Str → Option Value} {base : Heap}
theorem scBond : FnScope NBo ["letters", "n", "one", "other"] (defScope sBond) := ⟨rfl, rfl, rfl, by decide +kernel, rfl, by decide +kernel, by decide +kernel⟩
theorem ok_bond {f fG fI fA fR fT fL fN C CN CM CW : Addr} {fd fdG fdI fdA fdR fdT : FuncData} (F : L2.Fun K "bond" "bond" sBond f fd) (B : Blt mg) (T : TyC K mg C fL fN) (M : Mk K C fI) (mgC : mg "Types" = some (.ref C)) (mA : Meth K C "are_alike" fA)
    (GI : FnOk P w K mg base CX0 1 fI fdI ["self"] (spInit P w C)) (bI : Binds K fdI ["self"] []) (GA : FnOk P w K mg base CX0 18 fA fdA ["self", "n", "one", "other"] (spAre P w C)) (bA : Binds K fdA ["self", "n", "one", "other"] [])
    (GG : FnOk P w K mg base (L2.CX P w) 4 fG fdG ["letters", "n", "one", "other"] (spGame K CN CM CW)) (DG : Def mg K "need_game" fG fdG ["letters", "n", "one", "other"])
    (GR : FnOk P w K mg base CX0 1 fR fdR ["triple", "known"] spGr) (DR : Def mg K "is_granted" fR fdR ["triple", "known"])
    (GA2 : FnOk P w K mg base CX0 20 fT fdT ["types", "triple"] (spAsked P w C)) (DA2 : Def mg K "asked_triples" fT fdT ["types", "triple"]) : FnOk P w K mg base (L2.CX P w) 21 f fd ["letters", "n", "one", "other"] (spBond K CN CM CW) := by
  refine F.okX scBond (fun vs H Q E h => ?_) (fun cdv A outer s H vs Q E hr h => ⟨_,
    (pss_cons (ps_expr (pe_call GG (hr.mono (by decide)) (by rfl) DG.g DG.k DG.b .nil (passes_call (takes_of rfl rfl rfl rfl) fun _ _ _ _ h => h) (pa_cons (pv 0) (pa_cons (pv 1) (pa_cons (pv 2) (pa_cons (pv 3) pa_nil))))))
      (pss_cons (ps_set (i := 4) scBond.nd rfl (Or.inl rfl) (pe_make0 M GI (hr.mono (by decide)) rfl mgC bI .nil pass0))
      (pss_cons (ps_if (pt_not (pt_truth (pe_meth (pv 4) T.cl mA GA (hr.mono (by decide)) bA .nil pass0 (pa_cons (pv 1) (pa_cons (pv 2) (pa_cons (pv 3) pa_nil)))) (by intro _; rfl))) (pss_one (ps_ret pe_non)) pss_nil)
      (pss_cons (ps_par (i := 5) (j := 6) rfl scBond.nd rfl rfl (by decide) rfl rfl (pa_cons pe_dnewT (pa_cons (pe_lst (pa_cons (pe_tup (pa_cons (pv 1) (pa_cons (pv 2) (pa_cons (pv 3) pa_nil)))) pa_nil)) pa_nil)) rfl)
      (pss_cons (ps_while (passes_of rfl) (pt_cmpR (op_neD (by have := hr.un; show (A.deeper _).units + 64 < _; omega)) (pv 6) (pe_lst pa_nil) (nomark _)) (pss_cons (ps_set (i := 7) scBond.nd rfl (Or.inl rfl) (pe_bm0 PySem.F.plainAttrs_list PySem.F.slot_list_pop PySem.F.type_list_pop mt_pop (pv 6)))
      (pss_one (ps_if (pt_not (pt_truth (pe_call GR (hr.mono (by decide)) (by rfl) DR.g DR.k DR.b .nil pass0 (pa_cons (pv 7) (pa_cons (pv 5) pa_nil))) (by intro _; rfl))) (pss_cons (ps_dput (hu_of hr) (pv 5) (pv 7) pe_bl rfl)
      (pss_one (ps_expr (pe_bm PySem.F.plainAttrs_list PySem.F.slot_list_extend PySem.F.type_list_extend mt_extend (pv 6) (pa_cons (pe_call GA2 (hr.mono (by decide)) (by rfl) DA2.g DA2.k DA2.b .nil pass0 (pa_cons (pv 4) (pa_cons (pv 7) pa_nil))) pa_nil))))) pss_nil))))
      (pss_one (ps_ret (pe_callB (cr_sortedD rfl (by have := hr.un; show (A.deeper _).units + 64 < _; omega)) (by rfl) B.sorted (by decide +kernel) (pa_cons (pv 5) pa_nil))))))))), ?_⟩)
  · obtain ⟨x, y, u, v, rfl, _⟩ := h
    rfl
  · obtain ⟨x0, y0, u0, v0, rfl, h⟩ := h
    have sz : sizeLine = 16777216 := sizeLine_eq
    refine ⟨_, rfl, _, rfl, _, rfl, _, rfl, x0, y0, u0, v0, rfl, h.imp (fun _ _ e => e) fun ls n z1 z2 ex hls okl ey eu ev hn l1 l2 w1 w2 hq H1 g1 => ?_⟩
    clear h
    subst ex ey eu ev
    obtain ⟨qno, qyes⟩ := hq
    have c1 := okWord_mem w1
    have c2 := okWord_mem w2
    have m1 : z1.cps.toList.length = z1.length := cut_len z1
    have m2 : z2.cps.toList.length = z2.length := cut_len z2
    have s1 : sW z1.cps.toList = z1 := (sW_eq rfl).symm
    have s2 : sW z2.cps.toList = z2 := (sW_eq rfl).symm
    obtain ⟨U, cU, lU, u1, u2⟩ := two_facts (z1 := z1) (z2 := z2) (by omega) (by omega)
    dsimp only [tNext, tSeq, tAsg]
    refine go_new (P := P) (w := w) fun H2 x a b t2 na nb nx g2 => ?_
    have naH : H a = none := g1.not_new na
    have nbH : H b = none := g1.not_new nb
    obtain ⟨dx2, hx2⟩ := t2.obj
    refine ⟨_, rfl, x, dx2, _, rfl, hx2, tyf_no a b aO_ aO2_, _, rfl, _, rfl, _, rfl, x, a, b, [], [], n, z1, z2, U, rfl, by omega, t2, Nat.le_refl _, ⟨fun e he => by cases he⟩, by omega, by omega, u1, u2, cU, lU, fun H3 M3 L3 mo3 => ?_⟩
    have g3 : Grows H H3 := fun c o e => by
      have e1 := g1 _ _ e
      exact mo3.but c o (g2 _ _ e1) (ne_of_none e1 na) (ne_of_none e1 nb)
    by_cases hs : Same n z1.cps.toList z2.cps.toList
    case neg =>
      rw [sameB_not.mpr hs]
      exact ⟨_, rfl, if_pos_of rfl (qno hs H3 g3)⟩
    rw [sameB_iff.mpr hs]
    refine ⟨_, rfl, if_neg_of (by decide) ?_⟩
    have qy := qyes hs
    clear qno qyes
    generalize hu : z1.cps.toList = u at *
    generalize hv : z2.cps.toList = v at *
    -- found, waiting
    refine fun Fd nF => ?_
    have gF := Grows.new (o := .dT []) nF
    have t4 := mo3.at_.grows gF
    have kF : upd H3 Fd (.dT []) Fd = some (.dT (rowsT [] (.bl true))) := upd_same
    have Fa : Fd ≠ a := fun e => by rw [e, mo3.at_.met] at nF; cases nF
    have nFH : H Fd = none := g3.not_new nF
    generalize upd H3 Fd (.dT []) = H4 at gF t4 kF ⊢
    refine ⟨_, rfl, _, rfl, _, rfl, by show 3 ≤ sizeLine; omega, fun tr ntr => ?_⟩
    have gt : Grows H4 (upd H4 tr (.tup [.int ((n : Nat) : Int), .str z1, .str z2])) := Grows.new ntr
    have kt : upd H4 tr (.tup [.int ((n : Nat) : Int), .str z1, .str z2]) tr = some (.tup (tupP (n, u, v))) := by
      rw [upd_same]
      show _ = some (HO.tup [.int ((n : Nat) : Int), .str (sW u), .str (sW v)])
      rw [s1, s2]
    generalize upd H4 tr (.tup [.int ((n : Nat) : Int), .str z1, .str z2]) = H5 at gt kt ⊢
    refine ⟨by show 1 ≤ sizeLine; omega, fun Wt nW => ?_⟩
    have gW : Grows H5 (upd H5 Wt (.lst [.ref tr])) := Grows.new nW
    have g36 : Grows H3 (upd H5 Wt (.lst [.ref tr])) := (gF.trans gt).trans gW
    have nWH : H Wt = none := (g3.trans (gF.trans gt)).not_new nW
    have FW : Fd ≠ Wt := fun e => by have := gt _ _ kF; rw [e, nW] at this; cases this
    have B0 : BoH P w C U H (upd H5 Wt (.lst [.ref tr])) x a b Fd Wt [] [(n, u, v)] := ⟨⟨M3, L3, t4.grows (gt.trans gW), mo3.few, mo3.known⟩, g3.trans g36, gW _ _ (gt _ _ kF), [.ref tr], upd_same, .cons ⟨tr, rfl, gW _ _ kt⟩ .nil⟩
    have O0 : OnWay ls U n u v [] [(n, u, v)] := ⟨.nil, (fun t ht => by cases ht), (fun t ht => by
      rw [List.mem_singleton.mp ht]
      exact ⟨Nat.le_refl _, hs, (by show u.length ≤ 12; omega), (by show v.length ≤ 12; omega), u1, u2, c1, c2, fun s hs => hs⟩), .inr (List.mem_singleton.mpr rfl), (fun m x y hx => by cases hx)⟩
    have S0 : sumW [(n, u, v)] ≤ wW 24 4 := by
      show wW 24 n + 0 ≤ wW 24 4
      rcases (by omega : n = 4 ∨ n ≤ 3) with rfl | h
      · exact Nat.le_refl _
      · exact wW_mono 24 h
    have w4 : wW 24 4 = 5421361 := by decide +kernel
    have f4 : wF 24 4 = 112945 := by decide +kernel
    generalize upd H5 Wt (.lst [.ref tr]) = H6 at B0 ⊢
    refine ⟨_, _, rfl, ?_⟩
    clear gF t4 kF gt kt ntr gW g36 nW nF mo3 t2 na nb nx g2 hx2 g3 g1
    refine ⟨fun k σ' H' => ∃ (l ws : List Tp) (v7 : Option V), k = sumW ws ∧ σ' = [some (.str ls), some (.int ((n : Nat) : Int)), some (.str z1), some (.str z2), some (.ref x), some (.ref Fd), some (.ref Wt), v7] ∧ BoH P w C U H H' x a b Fd Wt l ws ∧ OnWay ls U n u v l ws ∧ sumW ws ≤ wW 24 4,
      ⟨_, [], [(n, u, v)], _, rfl, rfl, B0, O0, S0⟩, ?_⟩
    clear B0 O0 S0
    rintro k σ' H7 ⟨l, ws, v7, rfl, rfl, Bh, Ow, Sl⟩
    refine ⟨_, rfl, by show 0 ≤ sizeLine; omega, fun e ne => ?_⟩
    have ge : Grows H7 (upd H7 e (.lst [])) := Grows.new ne
    have ke : upd H7 e (.lst []) e = some (.lst []) := upd_same
    have Bh : BoH P w C U H (upd H7 e (.lst [])) x a b Fd Wt l ws := ⟨let ⟨M, L, a1, a2, a3⟩ := Bh.ty; ⟨M, L, a1.grows ge, a2, a3⟩, Bh.gr.trans ge, ge _ _ Bh.fo, let ⟨xs, a1, a2⟩ := Bh.wa; ⟨xs, ge _ _ a1, a2.keep fun c zs z => ge _ _ z⟩⟩
    generalize upd H7 e (.lst []) = H8 at ge ke Bh ⊢
    obtain ⟨xs, kW, pW⟩ := Bh.wa
    have okw : ∀ t ∈ ws, okTp t := fun t ht => (Ow.inW t ht).ok okl hn
    refine ⟨.list (ws.map tpD), .list [], .lst (.inl (.inl kW)) (tps_dp pW), .lst (.inl (.inl ke)) .nil, shaped_tps okw, rfl, _, rfl, ?_⟩
    have few : l.length ≤ 112945 := by
      have h1 := len_within l (treeN n u v) Ow.nd Ow.inL
      have h2 := tree_len 24 n (u := u) (v := v) (by omega)
      have h3 : wF 24 n ≤ wF 24 4 := by
        rcases (by omega : n = 0 ∨ n = 1 ∨ n = 2 ∨ n = 3 ∨ n = 4) with rfl | rfl | rfl | rfl | rfl <;> decide +kernel
      omega
    rcases List.eq_nil_or_concat ws with rfl | ⟨ws, t, rfl⟩
    · refine if_neg_of (by decide) ?_
      have fin := Ow.done
      refine ⟨_, rfl, Fd, rowsT l (.bl true), rfl, Bh.fo, by rw [rowsT_keys]; exact alikeP l, fun y hy => ?_, fun qs hq eq p np => ?_⟩
      · obtain ⟨t, _, rfl⟩ := List.mem_map.mp hy
        exact kP_ne t
      · rw [rowsT_keys] at eq
        have gp : Grows H8 (upd H8 p (.lst (qs.map fun q => .ref q.1))) := Grows.new np
        obtain ⟨ts, e1, e2⟩ := tps_of (l := l) hq fun q hq' => by
          have : q.2 ∈ qs.map (·.2) := List.mem_map.mpr ⟨q, hq', rfl⟩
          rw [eq] at this
          exact (List.mergeSort_perm _ _).mem_iff.mp this
        obtain ⟨pw, mem⟩ := sortP_pw Ow.nd (ts := ts) (by rw [e1, eq])
        exact qy _ p _ ts (Bh.gr.trans gp) (Bh.gr.not_new np) upd_same (e2.keep fun c zs z => gp _ _ z) pw fun t => (mem t).trans (fin t)
    rw [List.concat_eq_append] at *
    refine if_pos_of (by rw [List.map_append]; cases ws <;> rfl) ?_
    refine ⟨fun σ' H' => ∃ (l' ws' : List Tp) (v7 : Option V), sumW ws' < sumW (ws ++ [t]) ∧ σ' = [some (.str ls), some (.int ((n : Nat) : Int)), some (.str z1), some (.str z2), some (.ref x), some (.ref Fd), some (.ref Wt), v7] ∧ BoH P w C U H H' x a b Fd Wt l' ws' ∧ OnWay ls U n u v l' ws',
      fun σ' H' ⟨l', ws', v7, a1, a2, a3, a4⟩ => ⟨_, a1, l', ws', v7, rfl, a2, a3, a4, by omega⟩, ?_⟩
    -- pop
    have lx := Paired.length pW
    rw [List.length_append, List.length_singleton] at lx
    obtain ⟨y, hy⟩ : ∃ y, xs[ws.length]? = some y := ⟨_, List.getElem?_eq_getElem (by omega)⟩
    obtain ⟨t', et, tr2, rfl, ktr⟩ := tps_get pW hy
    have et : t' = t := by
      rw [List.getElem?_append_right (by omega), Nat.sub_self] at et
      exact (Option.some.inj et).symm
    subst et
    have pW' : TpsAt H8 xs.dropLast ws := by
      rw [List.dropLast_eq_take]
      have := tps_take pW (xs.length - 1)
      rw [show (ws ++ [t']).take (xs.length - 1) = ws by rw [lx, Nat.add_sub_cancel, List.take_left]] at this
      exact this
    refine ⟨_, rfl, .inl ⟨rfl, _, .inl (.inl kW)⟩, Wt, xs, .ref tr2, rfl, rfl, kW, by rw [lx, Nat.add_sub_cancel]; exact hy, ?_⟩
    have tp9 : ∀ c zs, H8 c = some (.tup zs) → upd H8 Wt (.lst xs.dropLast) c = some (.tup zs) := fun c zs z => by
      rw [upd_ne (ne_of z kW (by intro z; cases z))]
      exact z
    have Bh9 : BoH P w C U H (upd H8 Wt (.lst xs.dropLast)) x a b Fd Wt l ws := ⟨let ⟨M, L, a1, a2, a3⟩ := Bh.ty; ⟨M, L, a1.off kW, a2, a3⟩, fun c o z => by
      rw [upd_ne (ne_of_none z nWH)]
      exact Bh.gr _ _ z, by rw [upd_ne FW]; exact Bh.fo, _, upd_same, pW'.keep tp9⟩
    have ktr9 := tp9 _ _ ktr
    generalize upd H8 Wt (.lst xs.dropLast) = H9 at Bh9 ktr9 ⊢
    have wt := wW_pos 24 t'.1
    have sw : sumW (ws ++ [t']) = sumW ws + wW 24 t'.1 := by
      rw [sumW_app]
      rfl
    rw [sw] at Sl ⊢
    refine ⟨_, rfl, _, rfl, tr2, Fd, t', l, .bl true, rfl, ktr9, .inl Bh9.fo, ?_⟩
    cases eg : gr l t' with
    | true => exact ⟨_, rfl, if_neg_of (by decide) ⟨l, ws, _, by omega, rfl, Bh9, Ow.skip eg⟩⟩
    | false =>
    refine ⟨_, rfl, if_pos_of rfl ?_⟩
    obtain ⟨m, em, ne'⟩ := (triv_or t').resolve_left fun h => by
      have : gr l t' = true := gr_iff.mpr (h.elim .inl fun z => .inr (.inl z))
      rw [eg] at this
      cases this
    have no : t' ∉ l := fun h => by
      have : gr l t' = true := gr_iff.mpr (.inr (.inr h))
      rw [eg] at this
      cases this
    obtain ⟨tn, tu, tv⟩ := t'
    have em : tn = m + 1 := em
    subst em
    have wy := Ow.inW _ (List.mem_append_right _ (List.mem_singleton.mpr rfl))
    have Ow2 := Ow.put cU ne' no
    -- found[triple] = True
    refine ⟨_, rfl, _, rfl, Fd, _, rfl, DPut.t (k := kP (m + 1, tu, tv)) Bh9.fo ktr9 (by unfold rowsT; rw [List.length_map]; omega), ?_⟩
    rw [rowsT_put, show oneP l (m + 1, tu, tv) = l ++ [(m + 1, tu, tv)] from if_neg no]
    have tp10 : ∀ c zs, H9 c = some (.tup zs) → upd H9 Fd (.dT (rowsT (l ++ [(m + 1, tu, tv)]) (.bl true))) c = some (.tup zs) := fun c zs z => by
      rw [upd_ne (ne_of z Bh9.fo (by intro z; cases z))]
      exact z
    have Bh10 : BoH P w C U H (upd H9 Fd (.dT (rowsT (l ++ [(m + 1, tu, tv)]) (.bl true)))) x a b Fd Wt (l ++ [(m + 1, tu, tv)]) ws := ⟨let ⟨M, L, a1, a2, a3⟩ := Bh9.ty; ⟨M, L, a1.offT Bh9.fo Fa, a2, a3⟩, fun c o z => by
      rw [upd_ne (ne_of_none z nFH)]
      exact Bh9.gr _ _ z, upd_same, let ⟨xs, a1, a2⟩ := Bh9.wa; ⟨xs, by rw [upd_ne FW.symm]; exact a1, a2.keep tp10⟩⟩
    have ktr10 := tp10 _ _ ktr9
    generalize upd H9 Fd (.dT (rowsT (l ++ [(m + 1, tu, tv)]) (.bl true))) = H10 at Bh10 ktr10 ⊢
    obtain ⟨M10, L10, t10, few10, kn10⟩ := Bh10.ty
    obtain ⟨xs10, kW10, pW10⟩ := Bh10.wa
    have mn : m + 1 ≤ n := wy.le
    refine ⟨_, rfl, .inl ⟨rfl, _, .inl (.inl kW10)⟩, _, rfl, _, rfl, x, a, b, tr2, M10, L10, m, tu, tv, U, rfl, ktr10, by omega, t10, few10, kn10, wy.l1, wy.l2, wy.i1, wy.i2, cU, lU, wy.same, fun H11 M11 L11 D zs mo11 nD kD pD => ?_⟩
    have Wa : Wt ≠ a := fun e => by have := t10.met; rw [← e, kW10] at this; cases this
    have Wb : Wt ≠ b := fun e => by
      obtain ⟨rows, hb, _⟩ := t10.lots
      rw [← e, kW10] at hb
      cases hb
    have Fb : Fd ≠ b := fun e => by
      obtain ⟨rows, hb, _⟩ := t10.lots
      rw [← e, Bh10.fo] at hb
      cases hb
    have kW11 := mo11.but Wt _ kW10 Wa Wb
    have kF11 := mo11.but Fd _ Bh10.fo Fa Fb
    have tp11 : ∀ c zs, H10 c = some (.tup zs) → H11 c = some (.tup zs) := fun c zs z => t10.tups mo11.but c zs z
    have la := asks_len m tu tv
    have la1 : tu.length ≤ 12 := wy.l1
    have la2 : tv.length ≤ 12 := wy.l2
    have lz := Paired.length pD
    rw [List.length_map] at lz
    have lw10 := Paired.length pW10
    have sl1 := sumW_len ws
    refine ⟨Wt, D, xs10, zs, rfl, rfl, kW11, kD, by omega, ?_⟩
    have es : sumW (ws ++ (asks m tu tv).map fun p => (m, p.1, p.2)) < sumW ws + wW 24 (m + 1) := by
      rw [sumW_app, sumW_const]
      have : (asks m tu tv).length * wW 24 m ≤ 2 * 24 * wW 24 m := Nat.mul_le_mul_right _ (by omega)
      show _ < sumW ws + (1 + 2 * 24 * wW 24 m)
      omega
    have tp12 : ∀ c zz, H11 c = some (.tup zz) → upd H11 Wt (.lst (xs10 ++ zs)) c = some (.tup zz) := fun c zz z => by
      rw [upd_ne (ne_of z kW11 (by intro z; cases z))]
      exact z
    refine ⟨_, _, _, es, rfl, ⟨⟨M11, L11, mo11.at_.off kW11, mo11.few, mo11.known⟩, fun c o z => ?_, ?_, _, upd_same, tps_app ((pW10.keep tp11).keep tp12) (pD.keep tp12)⟩, Ow2⟩
    · rw [upd_ne (ne_of_none z nWH)]
      exact mo11.but c o (Bh10.gr _ _ z) (ne_of_none z naH) (ne_of_none z nbH)
    · rw [upd_ne FW]
      exact kF11
end
end SWL
set_option Elab.async false
set_option linter.all false
set_option maxRecDepth 100000
set_option maxHeartbeats 8000000
namespace SWL
open PySem PySem.Spec PyProof.Rows L2 LamX
/-! has_answers -/
abbrev teGr : TE := tCall spGr [] E0 (tCons (tTup (tCons (tOp rSub (tVar 0) (tC (.int 1))) (tCons (tVar 10) (tCons (tVar 11) tNil)))) (tCons (tVar 3) tNil))
def prP (b : Bool) (x y : Wl) : Wl × Wl := if b = true then (x, y) else (y, x)
theorem mkP_pr (b : Bool) (n : Nat) (x y : Wl) : mkP b n x y = (n, (prP b x y).1, (prP b x y).2) := by cases b <;> rfl
def spHasA : Sp := fun vs H Q _ => ∃ (n : Nat) (u v : Wl) (d : Addr) (l : List Tp) (y : V) (b : Bool), vs = [.int ((n + 1 : Nat) : Int), .str (sW u), .str (sW v), .ref d, .bl b] ∧ n + 1 ≤ 4 ∧ Rd H d (.dT (rowsT l y)) ∧ u.length ≤ 12 ∧ v.length ≤ 12 ∧ ∀ H', Grows H H' → Q (.bl (hasK l b n u v)) H'
abbrev NHa : List Str := ["n", "one", "other", "known", "is_first", "at", "letter", "met", "there", "pairs", "first", "second"]
/-- all of two pairs granted -/
theorem all_go {K : PySem.W.Frag} {J : It} {a1 a2 d D : Addr} {H1 : Hp} {n : Nat} {l : List Tp} {y : V} {p1 p2 : Wl × Wl} {w1 w2 w4 w5 w6 w7 w8 w9 w10 w11 : Option V} {Qd : Hp → Prop} {G : Hp → Prop} (w : Walk J 2 G (YAt [.ref a1, .ref a2])) (hG : ∀ H, Grows H1 H → G H) (kd : Rd H1 d (.dT (rowsT l y))) (k1 : PrAt H1 (.ref a1) p1) (k2 : PrAt H1 (.ref a2) p2) (nD : H1 D = none)
    (q : ∀ H2, Grows H1 H2 → H2 D = some (.lst ([gr l (n, p1.1, p1.2), gr l (n, p2.1, p2.2)].map V.bl)) → Qd H2) :
    ∃ W : Nat → Nat → Hp → Prop, (∃ m, W 0 m (upd H1 D (.lst []))) ∧ ∀ k m H, W k m H → (J.stop k H ∧ Qd H) ∨ (J.go k H ∧ ∃ Nx : Hp → Prop, (∀ H', Nx H' → ∃ m', m' < m ∧ W (k + 1) m' H') ∧ ∀ x H', J.yld k H x H' → gTup K 2 (gCons (gName 10) (gCons (gName 11) gNil)) x (wipe [some (.int ((n + 1 : Nat) : Int)), w1, w2, some (.ref d), w4, w5, w6, w7, w8, w9, w10, w11] [10, 11]) H' fun σ2 H2 => wipe σ2 [10, 11] = wipe [some (.int ((n + 1 : Nat) : Int)), w1, w2, some (.ref d), w4, w5, w6, w7, w8, w9, w10, w11] [10, 11] ∧ tYes σ2 H2 fun b H3 =>
      if b = true then teGr σ2 H3 fun y H4 => ∃ acc, H4 D = some (.lst acc) ∧ acc.length < sizeLine ∧ Nx (upd H4 D (.lst (acc ++ [y]))) else Nx H3) := by
  have sz : sizeLine = 16777216 := sizeLine_eq
  refine lc_it w (fun k H' => Grows H1 H' ∧ H' D = some (.lst (([gr l (n, p1.1, p1.2), gr l (n, p2.1, p2.2)].take k).map V.bl))) ⟨Grows.new nD, upd_same⟩ (fun _ H _ p => hG H p.1) ?_ ?_
  · rintro k x H2 H3 hk ⟨g2, kD⟩ ⟨rfl, hx⟩
    obtain ⟨az, pz, rfl, bz, ez, kz, et⟩ : ∃ (az : Addr) (pz : Wl × Wl), x = .ref az ∧ ∃ bz, V.ref az = .ref bz ∧ H1 bz = some (.tup [.str (sW pz.1), .str (sW pz.2)]) ∧ [gr l (n, p1.1, p1.2), gr l (n, p2.1, p2.2)].take (k + 1) = [gr l (n, p1.1, p1.2), gr l (n, p2.1, p2.2)].take k ++ [gr l (n, pz.1, pz.2)] := by
      rcases k with _ | _ | k
      · obtain ⟨b, e, kb⟩ := k1
        exact ⟨a1, p1, (Option.some.inj hx).symm, b, e, kb, rfl⟩
      · obtain ⟨b, e, kb⟩ := k2
        exact ⟨a2, p2, (Option.some.inj hx).symm, b, e, kb, rfl⟩
      · omega
    obtain rfl := V.ref.inj ez
    refine ⟨az, _, rfl, .inl (.inl (g2 _ _ kz)), rfl, _, _, rfl, _, _, rfl, rfl, rfl, ?_⟩
    refine ⟨_, rfl, _, _, rfl, rfl, _, rfl, _, rfl, by show 3 ≤ sizeLine; omega, fun t3 nt3 => ?_⟩
    have n1 : (((n + 1 : Nat) : Int) - 1) = ((n : Nat) : Int) := by omega
    rw [n1]
    have g4 : Grows H3 (upd H3 t3 (.tup [.int ((n : Nat) : Int), .str (sW pz.1), .str (sW pz.2)])) := Grows.new nt3
    have k4 : upd H3 t3 (.tup [.int ((n : Nat) : Int), .str (sW pz.1), .str (sW pz.2)]) t3 = some (.tup (tupP (n, pz.1, pz.2))) := upd_same
    generalize upd H3 t3 (.tup [.int ((n : Nat) : Int), .str (sW pz.1), .str (sW pz.2)]) = H5 at g4 k4 ⊢
    refine ⟨_, rfl, t3, d, (n, pz.1, pz.2), l, y, rfl, k4, (g2.trans g4).rd kd, ?_⟩
    refine ⟨_, g4 _ _ kD, by rw [List.length_map, List.length_take]; show min k 2 < sizeLine; omega, fun c o e => ?_, ?_⟩
    · rw [upd_ne (ne_of_none e nD)]
      exact g4 _ _ (g2 _ _ e)
    · rw [upd_same, et, List.map_append]
      rfl
  · rintro H2 ⟨g2, kD⟩
    exact q H2 g2 kD
section
variable {P : Program} {w : World} {K : PySem.W.Frag} {mg : Str → Option Value} {base : Heap}
theorem scHasA : FnScope NHa ["n", "one", "other", "known", "is_first"] (defScope sHasA) := ⟨rfl, rfl, rfl, by decide +kernel, rfl, by decide +kernel, by decide +kernel⟩
theorem ok_hasA {f fP fQ fR : Addr} {fd fdP fdQ fdR : FuncData} (F : L2.Fun K "has_answers" "has_answers" sHasA f fd) (B : Blt mg)
    (GP : FnOk P w K mg base CX0 1 fP fdP ["word", "letter"] spPlaces) (DP : Def mg K "places_with" fP fdP ["word", "letter"])
    (GQ : FnOk P w K mg base CX0 1 fQ fdQ ["one", "at", "other", "there"] spParts) (DQ : Def mg K "parts_at" fQ fdQ ["one", "at", "other", "there"])
    (GR : FnOk P w K mg base CX0 1 fR fdR ["triple", "known"] spGr) (DR : Def mg K "is_granted" fR fdR ["triple", "known"]) : FnOk P w K mg base CX0 2 f fd ["n", "one", "other", "known", "is_first"] spHasA := by
  refine F.ok scHasA (fun vs H Q E h => ?_) (fun cdv A outer s H vs Q E hr h => ⟨_,
    (pss_cons (ps_for PassesOwn.never rfl (pi_enumS (by rfl) B.enum (pa_cons (pv 1) pa_nil)) (pg_tup rfl (pgs_cons (pg_name (i := 5) scHasA.nd rfl (Or.inl rfl)) (pgs_cons (pg_name (i := 6) scHasA.nd rfl (Or.inl rfl)) pgs_nil))) (pss_cons (ps_set (i := 7) scHasA.nd rfl (Or.inl rfl) pe_bl)
      (pss_cons (ps_for PassesOwn.never rfl (pi_list (pe_call GP (hr.mono (by decide)) (by rfl) DP.g DP.k DP.b .nil pass0 (pa_cons (pv 2) (pa_cons (pv 6) pa_nil)))) (pg_name (i := 8) scHasA.nd rfl (Or.inl rfl)) (pss_cons (ps_set (i := 9) scHasA.nd rfl (Or.inl rfl) (pe_call GQ (hr.mono (by decide)) (by rfl) DQ.g DQ.k DQ.b .nil pass0 (pa_cons (pv 1) (pa_cons (pv 5) (pa_cons (pv 2) (pa_cons (pv 8) pa_nil))))))
      (pss_cons (ps_set (i := 9) scHasA.nd rfl (Or.inl rfl) (pe_ifExp (pt_truth (pv 4) (by intro _; rfl)) (pv 9) (pe_lc (own := [("first", 10), ("second", 11)]) (g := (gTup K 2 (gCons (gName 10) (gCons (gName 11) gNil)))) (tt := tYes) (te := (tTup (tCons (tVar 11) (tCons (tVar 10) tNil)))) rfl scHasA.nd (pi_tup (pv 9)) (blkOk_by (N := NHa) (sc := defScope sHasA) (by decide +kernel)) (fun _ _ _ _ _ => (pg_tup rfl (pgs_cons (pg_name (i := 10) scHasA.nd rfl (Or.inl rfl)) (pgs_cons (pg_name (i := 11) scHasA.nd rfl (Or.inl rfl)) pgs_nil)))) (fun _ _ _ _ _ => pts_nil) (fun _ _ _ _ _ => (pe_tup (pa_cons (pv 11) (pa_cons (pv 10) pa_nil)))))))
      (pss_one (ps_set (i := 7) scHasA.nd rfl (Or.inl rfl) (pe_or (pv 7) (pe_one (pe_callB (cr_all rfl) (by rfl) B.all (by decide +kernel) (pa_cons (pe_lc (own := [("first", 10), ("second", 11)]) (g := (gTup K 2 (gCons (gName 10) (gCons (gName 11) gNil)))) (tt := tYes) (te := teGr) rfl scHasA.nd (pi_or (pi_list (pv 9)) (pi_tup (pv 9))) (blkOk_by (N := NHa) (sc := defScope sHasA) (by decide +kernel)) (fun _ _ _ _ _ => (pg_tup rfl (pgs_cons (pg_name (i := 10) scHasA.nd rfl (Or.inl rfl)) (pgs_cons (pg_name (i := 11) scHasA.nd rfl (Or.inl rfl)) pgs_nil)))) (fun _ _ _ _ _ => pts_nil) (fun _ _ _ _ _ => (pe_call GR (hr.mono (by decide)) (by rfl) DR.g DR.k DR.b .nil pass0 (pa_cons (pe_tup (pa_cons (pe_op op_sub (pv 0) pe_int) (pa_cons (pv 10) (pa_cons (pv 11) pa_nil)))) (pa_cons (pv 3) pa_nil))))) pa_nil)))))))))
      (pss_one (ps_if (pt_not (pt_truth (pv 7) (by intro _; rfl))) (pss_one (ps_ret pe_bl)) pss_nil)))))
      (pss_one (ps_ret pe_bl))), ?_⟩)
  · obtain ⟨n, u, v, d, l, y, b, rfl, _⟩ := h
    rfl
  · obtain ⟨n, u, v, d, l, y, b, rfl, hn, kd, lu, lv, q⟩ := h
    have sz : sizeLine = 16777216 := sizeLine_eq
    have su : (sW u).cps.toList = u := sW_cps u
    have sv : (sW v).cps.toList = v := sW_cps v
    have lsu : (sW u).length = u.length := sW_len u
    have lsv : (sW v).length = v.length := sW_len v
    refine ⟨_, rfl, sW u, rfl, for_it walk_enumS (fun i σ H' => (∃ w5 w6 w7 w8 w9 w10 w11 : Option V, σ = [some (.int ((n + 1 : Nat) : Int)), some (.str (sW u)), some (.str (sW v)), some (.ref d), some (.bl b), w5, w6, w7, w8, w9, w10, w11]) ∧ Grows H H' ∧ ∀ i' c, i' < i → u[i']? = some c → hasO l b n u v i' c = true)
      ⟨⟨_, _, _, _, _, _, _, rfl⟩, Grows.refl H, fun i' c h => absurd h (Nat.not_lt_zero i')⟩ (fun _ _ _ _ _ => trivial) ?_ ?_⟩
    · rintro i y' σ H1 H1' hi ⟨⟨w5, w6, w7, w8, w9, w10, w11, rfl⟩, g1, old⟩ ⟨tp, _, _, rfl, ntp, rfl, e1, e2⟩
      have hi : i < u.length := by have : i < (sW u).cps.toList.length := hi; rw [su] at this; exact this
      obtain ⟨c, hc⟩ : ∃ c, u[i]? = some c := ⟨_, List.getElem?_eq_getElem hi⟩
      have e1' := (Option.some.inj e1).symm
      have e2 : (sW u).cps.toList[i]?.map (fun c => V.str { cps := #[c] }) = some _ := e2
      rw [su, hc] at e2
      have e2' := (Option.some.inj e2).symm
      subst e1' e2'
      have gt : Grows H1 (upd H1 tp (.tup [.int ((i : Nat) : Int), .str ⟨#[c]⟩])) := Grows.new ntp
      refine ⟨tp, _, rfl, .inl (.inl upd_same), rfl, _, _, rfl, _, _, rfl, rfl, ?_⟩
      generalize upd H1 tp (.tup [.int ((i : Nat) : Int), .str ⟨#[c]⟩]) = H2 at gt ⊢
      have g2 := g1.trans gt
      refine ⟨_, rfl, _, rfl, sW v, c, rfl, by omega, fun H3 pl g3 npl kpl => ?_⟩
      rw [sv] at kpl
      have g03 := g2.trans g3
      refine ⟨pl, rfl, ⟨_, .inl (.inl kpl)⟩, for_it (walk_list (K := K) (a := pl) (xs := nums (plF v c))) (fun j σ H' => (∃ w8 w9 w10 w11 : Option V, σ = [some (.int ((n + 1 : Nat) : Int)), some (.str (sW u)), some (.str (sW v)), some (.ref d), some (.bl b), some (.int ((i : Nat) : Int)), some (.str ⟨#[c]⟩), some (.bl (((plF v c).take j).any (fitK l b n u v i))), w8, w9, w10, w11]) ∧ Grows H3 H')
        ⟨⟨_, _, _, _, rfl⟩, Grows.refl H3⟩ (fun _ _ H' _ p => .inl (.inl (p.2 _ _ kpl))) ?_ ?_⟩
      · rintro j z σ H4 H5 hj ⟨⟨w8, w9, w10, w11, rfl⟩, g4⟩ ⟨rfl, hz⟩
        obtain ⟨m, hm, rfl⟩ : ∃ m, (plF v c)[j]? = some m ∧ z = .int ((m : Nat) : Int) := by
          unfold nums at hz
          rw [List.getElem?_map] at hz
          cases e : (plF v c)[j]? with
          | none => rw [e] at hz; cases hz
          | some m => rw [e] at hz; exact ⟨m, rfl, (Option.some.inj hz).symm⟩
        have mlt : m < v.length := (List.getElem?_eq_some_iff.mp (plF_mem.mp (List.mem_of_getElem? hm))).1
        refine ⟨_, rfl, _, rfl, _, rfl, _, rfl, sW u, sW v, i, m, rfl, by omega, by omega, by omega, by omega, fun H6 tt p1 p2 x1 x2 y1 y2 g6 ktt kp1 kp2 ex1 ex2 ey1 ey2 => ?_⟩
        rw [su] at ex1 ey1
        rw [sv] at ex2 ey2
        rw [sW_eq ex1, sW_eq ex2] at kp1
        rw [sW_eq ey1, sW_eq ey2] at kp2
        have g46 := g4.trans g6
        have g06 := g03.trans g46
        have kd6 := g06.rd kd
        have take1 : ((plF v c).take (j + 1)).any (fitK l b n u v i) = (((plF v c).take j).any (fitK l b n u v i) || fitK l b n u v i m) := by
          rw [take_snoc hm, List.any_append]
          simp
        have P1 : PrAt H6 (.ref p1) (u.take i, v.take m) := ⟨p1, rfl, kp1⟩
        have P2 : PrAt H6 (.ref p2) (u.drop (i + 1), v.drop (m + 1)) := ⟨p2, rfl, kp2⟩
        rw [take1]
        generalize ((plF v c).take j).any (fitK l b n u v i) = met
        have eb : [gr l (n, (prP b (u.take i) (v.take m)).1, (prP b (u.take i) (v.take m)).2), gr l (n, (prP b (u.drop (i + 1)) (v.drop (m + 1))).1, (prP b (u.drop (i + 1)) (v.drop (m + 1))).2)].all id = fitK l b n u v i m := by
          unfold fitK
          rw [mkP_pr, mkP_pr]
          show (_ && (_ && true)) = _
          rw [Bool.and_true]
          rfl
        have orl : ∀ q : Bool, (true || q) = true := fun q => rfl
        have orf : ∀ q : Bool, (false || q) = q := fun q => rfl
        cases b with
        | true =>
          refine ⟨_, rfl, _, rfl, if_pos_of rfl ⟨_, rfl, ?_⟩⟩
          refine ⟨_, rfl, met, rfl, ?_⟩
          cases met with
          | true => exact if_pos_of rfl ⟨⟨_, _, _, _, rfl⟩, g46⟩
          | false =>
          refine if_neg_of (by decide) ?_
          refine .inr ⟨_, rfl, tt, rfl, ⟨_, .inl (.inl ktt)⟩, fun D nD => all_go (walk_tup (K := K) (a := tt) (xs := [.ref p1, .ref p2])) (fun H' g => .inl (.inl (g _ _ ktt))) kd6 P1 P2 nD fun H7 g7 kD => ?_⟩
          obtain ⟨bs, hbs⟩ : ∃ bs, bs = [gr l (n, u.take i, v.take m), gr l (n, u.drop (i + 1), v.drop (m + 1))] := ⟨_, rfl⟩
          have hall : bs.all id = fitK l true n u v i m := by rw [hbs]; exact eb
          have kD : H7 D = some (.lst (bs.map V.bl)) := by rw [hbs]; exact kD
          refine ⟨D, bs, rfl, .inl (.inl kD), ?_⟩
          rw [hall]
          exact ⟨⟨_, _, _, _, rfl⟩, g46.trans g7⟩
        | false =>
          refine ⟨_, rfl, _, rfl, if_neg_of (by decide) ⟨_, rfl, tt, rfl, ⟨_, .inl (.inl ktt)⟩, fun D2 nD2 => ?_⟩⟩
          refine lc_it (walk_tup (K := K) (a := tt) (xs := [.ref p1, .ref p2])) (fun k H' => Grows H6 H' ∧ ∃ ys, H' D2 = some (.lst ys) ∧ PrsAt H' ys ([(v.take m, u.take i), (v.drop (m + 1), u.drop (i + 1))].take k)) ⟨Grows.new nD2, [], upd_same, .nil⟩ (fun _ H' _ p => .inl (.inl (p.1 _ _ ktt))) ?_ ?_
          · rintro k x H7 H8 hk ⟨g7, ys, kD, pr⟩ ⟨rfl, hx⟩
            obtain ⟨bz, pz, rfl, kz, et, lt⟩ : ∃ (bz : Addr) (pz : Wl × Wl), x = .ref bz ∧ H6 bz = some (.tup [.str (sW pz.1), .str (sW pz.2)]) ∧ [(v.take m, u.take i), (v.drop (m + 1), u.drop (i + 1))].take (k + 1) = [(v.take m, u.take i), (v.drop (m + 1), u.drop (i + 1))].take k ++ [(pz.2, pz.1)] ∧ ([(v.take m, u.take i), (v.drop (m + 1), u.drop (i + 1))].take k).length ≤ 2 := by
              rcases k with _ | _ | k
              · exact ⟨p1, (u.take i, v.take m), (Option.some.inj hx).symm, kp1, rfl, by simp⟩
              · exact ⟨p2, (u.drop (i + 1), v.drop (m + 1)), (Option.some.inj hx).symm, kp2, rfl, by simp⟩
              · have hk : k + 2 < 2 := hk
                omega
            refine ⟨bz, _, rfl, .inl (.inl (g7 _ _ kz)), rfl, _, _, rfl, _, _, rfl, rfl, rfl, ?_⟩
            refine ⟨_, rfl, _, rfl, by show 2 ≤ sizeLine; omega, fun t3 nt3 => ?_⟩
            have g8 : Grows H8 (upd H8 t3 (.tup [.str (sW pz.2), .str (sW pz.1)])) := Grows.new nt3
            have k8 : upd H8 t3 (.tup [.str (sW pz.2), .str (sW pz.1)]) t3 = some (.tup [.str (sW pz.2), .str (sW pz.1)]) := upd_same
            generalize upd H8 t3 (.tup [.str (sW pz.2), .str (sW pz.1)]) = H9 at g8 k8 ⊢
            have kD9 := g8 _ _ kD
            have off : ∀ c zs, H9 c = some (.tup zs) → upd H9 D2 (.lst (ys ++ [.ref t3])) c = some (.tup zs) := fun c zs z => by
              rw [upd_ne (ne_of z kD9 (by intro z; cases z))]
              exact z
            have ly := Paired.length pr
            refine ⟨ys, kD9, by omega, fun c o z => ?_, _, upd_same, ?_⟩
            · rw [upd_ne (ne_of_none z nD2)]
              exact g8 _ _ (g7 _ _ z)
            · rw [et]
              exact paired_app ((pr.keep fun c zs z => g8 _ _ z).keep off) (.cons ⟨t3, rfl, off _ _ k8⟩ .nil)
          rintro H7 ⟨g7, ys, kD2, pr⟩
          obtain ⟨x1', x2', rfl, P1', P2'⟩ : ∃ x1 x2, ys = [x1, x2] ∧ PrAt H7 x1 (v.take m, u.take i) ∧ PrAt H7 x2 (v.drop (m + 1), u.drop (i + 1)) := by
            have pr : PrsAt H7 ys [(v.take m, u.take i), (v.drop (m + 1), u.drop (i + 1))] := pr
            cases pr with
            | cons h1 t1 => cases t1 with
              | cons h2 t2 => cases t2; exact ⟨_, _, rfl, h1, h2⟩
          obtain ⟨b1, rfl, kb1⟩ := id P1'
          obtain ⟨b2, rfl, kb2⟩ := id P2'
          refine ⟨_, rfl, met, rfl, ?_⟩
          cases met with
          | true => exact if_pos_of rfl ⟨⟨_, _, _, _, rfl⟩, g46.trans g7⟩
          | false =>
          refine if_neg_of (by decide) ?_
          refine .inl ⟨_, rfl, D2, rfl, ⟨_, .inl (.inl kD2)⟩, fun D nD => all_go (walk_list (K := K) (a := D2) (xs := [.ref b1, .ref b2])) (fun H' g => .inl (.inl (g _ _ kD2))) (g7.rd kd6) P1' P2' nD fun H8 g8 kD => ?_⟩
          obtain ⟨bs, hbs⟩ : ∃ bs, bs = [gr l (n, v.take m, u.take i), gr l (n, v.drop (m + 1), u.drop (i + 1))] := ⟨_, rfl⟩
          have hall : bs.all id = fitK l false n u v i m := by rw [hbs]; exact eb
          have kD : H8 D = some (.lst (bs.map V.bl)) := by rw [hbs]; exact kD
          refine ⟨D, bs, rfl, .inl (.inl kD), ?_⟩
          rw [hall]
          exact ⟨⟨_, _, _, _, rfl⟩, (g46.trans g7).trans g8⟩
      · rintro σ H4 ⟨⟨w8, w9, w10, w11, rfl⟩, g4⟩
        have ln : (nums (plF v c)).length = (plF v c).length := List.length_map ..
        rw [ln, List.take_length]
        have g14 : Grows H H4 := g03.trans g4
        cases e : (plF v c).any (fitK l b n u v i) with
        | true =>
          refine ⟨_, rfl, _, rfl, if_neg_of (by decide) ⟨⟨_, _, _, _, _, _, _, rfl⟩, g14, fun i' c' hi' hc' => ?_⟩⟩
          by_cases ei : i' = i
          · subst ei
            rw [hc] at hc'
            rw [← Option.some.inj hc']
            exact e
          · exact old i' c' (by omega) hc'
        | false =>
          refine ⟨_, rfl, _, rfl, if_pos_of rfl ?_⟩
          have ek : hasK l b n u v = false := by
            cases ee : hasK l b n u v with
            | false => rfl
            | true =>
              have := hasK_iff.mp ee i c hc
              unfold hasO at this
              rw [e] at this
              cases this
          rw [ek] at q
          exact q H4 g14
    · rintro σ H1 ⟨⟨w5, w6, w7, w8, w9, w10, w11, rfl⟩, g1, all⟩
      have e : hasK l b n u v = true := hasK_iff.mpr fun i c hc => all i c (by have := (List.getElem?_eq_some_iff.mp hc).1; show i < (sW u).cps.toList.length; rw [su]; exact this) hc
      rw [e] at q
      exact q H1 g1
end
end SWL
set_option Elab.async false
set_option linter.all false
set_option maxRecDepth 100000
set_option maxHeartbeats 8000000
namespace SWL
open PySem PySem.Spec PyProof.Rows L2 LamX
/-! is_bond -/
abbrev teTri {K : PySem.W.Frag} : TE := tCall (spIsTri K) [] E0 (tCons (tVar 0) (tCons (tVar 9) tNil))
/-- what is given as a bond -/
def GiveAt (K : PySem.W.Frag) (ls : Str) (H : Hp) (th : V) : Option (List (Option Tp)) → Prop
  | none => th = .non
  | some os => ∃ (a : Addr) (xs : List V), th = .ref a ∧ Sq K H a xs ∧ Paired (ItAt ls H) xs os ∧ xs.length ≤ 1000000
def giveB : Option (List (Option Tp)) → Tp → Bool
  | none, _ => false
  | some os, t0 => bondB os t0
theorem GiveAt.grows {K : PySem.W.Frag} {ls : Str} {H H' : Hp} (g : Grows H H') {th : V} {o : Option (List (Option Tp))} (h : GiveAt K ls H th o) : GiveAt K ls H' th o := by
  cases o with
  | none => exact h
  | some os =>
    obtain ⟨a, xs, e, s, p, l⟩ := h
    exact ⟨a, xs, e, g.sq s, Paired.mapP p fun _ _ k => k.keep fun b zs z => g _ _ z, l⟩
theorem all_tris {ls : Str} {H : Hp} {xs : List V} {os : List (Option Tp)} (p : Paired (ItAt ls H) xs os) (h : os.all fitO = true) : ∃ ts : List Tp, os = ts.map some ∧ TpsAt H xs ts ∧ ∀ t ∈ ts, 1 ≤ t.1 ∧ t.1 ≤ 4 ∧ okWord ls (sW t.2.1) 12 = true ∧ okWord ls (sW t.2.2) 12 = true := by
  induction p with
  | nil => exact ⟨[], rfl, .nil, fun t ht => by cases ht⟩
  | @cons x o xs os h1 t1 ih =>
    rw [List.all_cons, Bool.and_eq_true] at h
    obtain ⟨ts, e, q, r⟩ := ih h.2
    cases o with
    | none => exact absurd h.1 (by decide)
    | some t =>
      obtain ⟨a1, a2, a3, a4⟩ := h1
      have hp : 1 ≤ t.1 := of_decide_eq_true h.1
      refine ⟨t :: ts, by rw [e]; rfl, .cons a1 q, fun s hs => ?_⟩
      rcases List.mem_cons.mp hs with rfl | hs
      · exact ⟨hp, a2, a3, a4⟩
      · exact r s hs
theorem either_go {K : PySem.W.Frag} {σ : L2.St} {H : Hp} {i : Nat} {a : Addr} {xs : List V} {R : It → Hp → Prop} (hv : σ[i]? = some (some (.ref a))) (s : Sq K H a xs) (q : ∀ (J : It) (G : Hp → Prop), Walk J xs.length G (YAt xs) → (∀ H', Grows H H' → G H') → R J H) : iList K (tVar i) σ H R ∨ iTup K (tVar i) σ H R := by
  rcases s with s | s
  · exact .inl ⟨_, hv, a, rfl, ⟨xs, s⟩, q _ _ (walk_list (K := K) (a := a) (xs := xs)) fun H' g => g.l s⟩
  · exact .inr ⟨_, hv, a, rfl, ⟨xs, s⟩, q _ _ (walk_tup (K := K) (a := a) (xs := xs)) fun H' g => g.t s⟩
def spIsBond (K : PySem.W.Frag) (CN CM CW : Addr) : Sp := fun vs H Q E => ∃ x y u v th, vs = [x, y, u, v, th] ∧ GameP K CN CM CW H E x y u v fun ls n z1 z2 => ∃ o, GiveAt K ls H th o ∧ ∀ H', Grows H H' → Q (.bl (giveB o (n, z1.cps.toList, z2.cps.toList))) H'
abbrev NIb : List Str := ["letters", "n", "one", "other", "thing", "known", "rounds", "first", "second", "triple"]
section
variable {P : Program} {w : World} {K : PySem.W.Frag} {mg : Str → Option Value} {base : Heap}
theorem scIsBond : FnScope NIb ["letters", "n", "one", "other", "thing"] (defScope sIsBond) := ⟨rfl, rfl, rfl, by decide +kernel, rfl, by decide +kernel, by decide +kernel⟩
theorem ok_isBond {f fG fT fR fA CN CM CW : Addr} {fd fdG fdT fdR fdA : FuncData} (F : L2.Fun K "is_bond" "is_bond" sIsBond f fd) (B : Blt mg)
    (GG : FnOk P w K mg base (L2.CX P w) 4 fG fdG ["letters", "n", "one", "other"] (spGame K CN CM CW)) (DG : Def mg K "need_game" fG fdG ["letters", "n", "one", "other"])
    (GT : FnOk P w K mg base CX0 3 fT fdT ["letters", "thing"] (spIsTri K)) (DT : Def mg K "is_triple" fT fdT ["letters", "thing"])
    (GR : FnOk P w K mg base CX0 1 fR fdR ["triple", "known"] spGr) (DR : Def mg K "is_granted" fR fdR ["triple", "known"])
    (GA : FnOk P w K mg base CX0 2 fA fdA ["n", "one", "other", "known", "is_first"] spHasA) (DA : Def mg K "has_answers" fA fdA ["n", "one", "other", "known", "is_first"]) : FnOk P w K mg base (L2.CX P w) 5 f fd ["letters", "n", "one", "other", "thing"] (spIsBond K CN CM CW) := by
  refine F.okX scIsBond (fun vs H Q E h => ?_) (fun cdv A outer s H vs Q E hr h => ⟨_,
    (pss_cons (ps_expr (pe_call GG (hr.mono (by decide)) (by rfl) DG.g DG.k DG.b .nil (passes_call (takes_of rfl rfl rfl rfl) fun _ _ _ _ h => h) (pa_cons (pv 0) (pa_cons (pv 1) (pa_cons (pv 2) (pa_cons (pv 3) pa_nil))))))
      (pss_cons (ps_if (PW.pt (pw_or (pt_not (pt_truth (pe_callB call_isiT (by rfl) B.isi (by decide +kernel) (pa_cons (pv 4) (pa_cons (pe_tup (pa_cons (pe_bltn (u := .type "list") (v := .ty "list") (by rfl) B.list (by decide +kernel) rfl) (pa_cons (pe_bltn (u := .type "tuple") (v := .ty "tuple") (by rfl) B.tuple (by decide +kernel) rfl) pa_nil))) pa_nil))) (by intro _; rfl))) (pw_or1 (pt_not (pt_truth (pe_callB (cr_all rfl) (by rfl) B.all (by decide +kernel) (pa_cons (pe_lc (own := [("triple", 9)]) (g := (gName 9)) (tt := tYes) (te := teTri) rfl scIsBond.nd (pi_or (pi_list (pv 4)) (pi_tup (pv 4))) (blkOk_by (N := NIb) (sc := defScope sIsBond) (by decide +kernel)) (fun _ _ _ _ _ => (pg_name (i := 9) scIsBond.nd rfl (Or.inl rfl))) (fun _ _ _ _ _ => pts_nil) (fun _ _ _ _ _ => (pe_call GT (hr.mono (by decide)) (by rfl) DT.g DT.k DT.b .nil pass0 (pa_cons (pv 0) (pa_cons (pv 9) pa_nil))))) pa_nil)) (by intro _; rfl)))))) (pss_one (ps_ret pe_bl)) pss_nil)
      (pss_cons (ps_setDcT (i := 5) (own := [("triple", 9)]) (g := gName 9) (tk := tVar 9) (tv := tC (.bl true)) (hu_of hr) rfl scIsBond.nd rfl rfl (sw_trueD rfl rfl rfl (by decide +kernel)) (pi_or (pi_list (pv 4)) (pi_tup (pv 4))) (blkOk_by (N := NIb) (sc := defScope sIsBond) (by decide +kernel)) (fun _ _ _ _ _ => (pg_name (i := 9) scIsBond.nd rfl (Or.inl rfl))) (fun _ _ _ _ _ => pv 9) (fun _ _ _ _ _ => pe_bl))
      (pss_cons (ps_if (pt_not (pt_truth (pe_call GR (hr.mono (by decide)) (by rfl) DR.g DR.k DR.b .nil pass0 (pa_cons (pe_tup (pa_cons (pv 1) (pa_cons (pv 2) (pa_cons (pv 3) pa_nil)))) (pa_cons (pv 5) pa_nil))) (by intro _; rfl))) (pss_one (ps_ret pe_bl)) pss_nil)
      (pss_cons (ps_lock (ps_for (passes_of rfl) rfl (pi_keys (pv 5)) (pg_tup rfl (pgs_cons (pg_name (i := 6) scIsBond.nd rfl (Or.inl rfl)) (pgs_cons (pg_name (i := 7) scIsBond.nd rfl (Or.inl rfl)) (pgs_cons (pg_name (i := 8) scIsBond.nd rfl (Or.inl rfl)) pgs_nil)))) (pss_one (ps_if (PW.pt (pw_or (pt_not (pt_truth (pe_call GA (hr.mono (by decide)) (by rfl) DA.g DA.k DA.b .nil pass0 (pa_cons (pv 6) (pa_cons (pv 7) (pa_cons (pv 8) (pa_cons (pv 5) (pa_cons pe_bl pa_nil)))))) (by intro _; rfl))) (pw_or1 (pt_not (pt_truth (pe_call GA (hr.mono (by decide)) (by rfl) DA.g DA.k DA.b .nil pass0 (pa_cons (pv 6) (pa_cons (pv 8) (pa_cons (pv 7) (pa_cons (pv 5) (pa_cons pe_bl pa_nil)))))) (by intro _; rfl)))))) (pss_one (ps_ret pe_bl)) pss_nil))))
      (pss_one (ps_ret pe_bl))))))), ?_⟩)
  · obtain ⟨x, y, u, v, th, rfl, _⟩ := h
    rfl
  · obtain ⟨x0, y0, u0, v0, th, rfl, h⟩ := h
    have sz : sizeLine = 16777216 := sizeLine_eq
    refine ⟨_, rfl, _, rfl, _, rfl, _, rfl, x0, y0, u0, v0, rfl, h.imp (fun _ _ e => e) fun ls n z1 z2 ex hls okl ey eu ev hn l1 l2 w1 w2 hq H1 g1 => ?_⟩
    clear h
    subst ex ey eu ev
    obtain ⟨o, hgive, q⟩ := hq
    have give1 := hgive.grows g1
    refine ⟨_, rfl, by show 2 ≤ sizeLine; decide, fun tp ntp => ?_⟩
    have gt : Grows H1 (upd H1 tp (.tup [.ty "list", .ty "tuple"])) := Grows.new ntp
    have kt : upd H1 tp (.tup [.ty "list", .ty "tuple"]) tp = some (.tup [.ty "list", .ty "tuple"]) := upd_same
    generalize upd H1 tp (.tup [.ty "list", .ty "tuple"]) = H2 at gt kt ⊢
    have g2 := g1.trans gt
    have give2 := give1.grows gt
    cases o with
    | none =>
      obtain rfl : th = .non := hgive
      exact ⟨.non, tp, _, .type "NoneType", [.type "list", .type "tuple"], false, rfl, kt, .cons (.ty _) (.cons (.ty _) .nil), .base .non, NotSeq.kit (by decide +kernel) (by decide +kernel), false, rfl, if_pos_of rfl (q H2 g2)⟩
    | some os =>
    obtain ⟨a, xs, rfl, s2, p2, lx⟩ := give2
    obtain ⟨t, ty, ka⟩ := ty_sq s2
    refine ⟨.ref a, tp, _, .type t, [.type "list", .type "tuple"], true, rfl, kt, .cons (.ty _) (.cons (.ty _) .nil), ty, ka, true, rfl, if_neg_of (by decide) ?_⟩
    refine either_go rfl s2 fun J G wk hG D nD => lc_it wk (fun k H' => Grows H2 H' ∧ H' D = some (.lst (((os.take k).map fitO).map V.bl))) ⟨Grows.new nD, upd_same⟩ (fun _ H' _ p => hG H' p.1) ?_ ?_
    · rintro k x H3 H4 hk ⟨g3, kD⟩ ⟨rfl, hx⟩
      obtain ⟨o, ho, io⟩ := paired_idx p2 hx
      refine ⟨rfl, ?_⟩
      refine ⟨_, rfl, _, rfl, ls, x, o, rfl, io.keep (fun b zs z => g3 _ _ z), fun H5 g5 => ⟨_, g5 _ _ kD, by rw [List.length_map, List.length_map, List.length_take]; omega, fun c o e => ?_, ?_⟩⟩
      · rw [upd_ne (ne_of_none e nD)]
        exact g5 _ _ (g3 _ _ e)
      · rw [upd_same, take_snoc ho, List.map_append, List.map_append]
        rfl
    rintro H3 ⟨g3, kD⟩
    have lo : xs.length = os.length := Paired.length p2
    rw [lo, List.take_length] at kD
    refine ⟨D, os.map fitO, rfl, .inl (.inl kD), ?_⟩
    rw [show (os.map fitO).all id = os.all fitO by rw [List.all_map]; rfl]
    have g03 := g2.trans g3
    cases hall : os.all fitO with
    | false =>
      have e : giveB (some os) (n, z1.cps.toList, z2.cps.toList) = false := by
        show (os.all fitO && _) = false
        rw [hall]
        rfl
      rw [e] at q
      exact ⟨false, rfl, if_pos_of rfl (q H3 g03)⟩
    | true =>
    refine ⟨true, rfl, if_neg_of (by decide) ?_⟩
    obtain ⟨ts, rfl, pT, okT_⟩ := all_tris p2 hall
    have eB : giveB (some (ts.map some)) (n, z1.cps.toList, z2.cps.toList) = isB (firstsP ts) (n, z1.cps.toList, z2.cps.toList) := by
      show bondB (ts.map some) _ = _
      rw [bondB_some ts _ fun t ht => (okT_ t ht).1]
      exact (isB_mem (firstsP_mem ts) _).symm
    rw [eB] at q
    have lt := Paired.length pT
    have pT3 : TpsAt H3 xs ts := pT.keep fun b zs z => g3 _ _ z
    have s3 : Sq K H3 a xs := g3.sq s2
    clear kD nD
    -- the dict
    refine either_go rfl s3 fun J G wk hG D nD => walk_it wk (fun k H' => Grows H3 H' ∧ H' D = some (.dT (rowsT (firstsP (ts.take k)) (.bl true)))) ⟨Grows.new nD, upd_same⟩ (fun _ H' _ p => hG H' p.1) ?_ ?_
    · rintro k x H4 H5 hk ⟨g4, kD⟩ ⟨rfl, hx⟩
      obtain ⟨t, ht, b, rfl, kb⟩ := paired_idx pT3 hx
      have fl := firstsP_len (ts.take k)
      rw [List.length_take] at fl
      refine ⟨rfl, _, rfl, rowsT (firstsP (ts.take k)) (.bl true), kP t, b, rfl, g4 _ _ kb, kD, by unfold rowsT; rw [List.length_map]; omega, fun c o e => ?_, ?_⟩
      · rw [upd_ne (ne_of_none e nD)]
        exact g4 _ _ e
      · rw [upd_same, rowsT_put, take_snoc ht, firstsP_snoc]
    rintro H4 ⟨g4, kD⟩
    rw [lt, List.take_length] at kD
    have okL : ∀ t ∈ firstsP ts, 1 ≤ t.1 ∧ t.1 ≤ 4 ∧ okWord ls (sW t.2.1) 12 = true ∧ okWord ls (sW t.2.2) 12 = true := fun t ht => okT_ t ((firstsP_mem ts t).mp ht)
    have nDH : H D = none := g03.not_new nD
    generalize firstsP ts = L at kD okL q
    have g04 := g03.trans g4
    clear g3 g4 g03 pT3 s3 nD
    have s1 : sW z1.cps.toList = z1 := (sW_eq rfl).symm
    have s2 : sW z2.cps.toList = z2 := (sW_eq rfl).symm
    generalize hu : z1.cps.toList = u at *
    generalize hv : z2.cps.toList = v at *
    refine ⟨_, rfl, _, rfl, _, rfl, by show 3 ≤ sizeLine; omega, fun t0 nt0 => ?_⟩
    have gt0 : Grows H4 (upd H4 t0 (.tup [.int ((n : Nat) : Int), .str z1, .str z2])) := Grows.new nt0
    have kt0 : upd H4 t0 (.tup [.int ((n : Nat) : Int), .str z1, .str z2]) t0 = some (.tup (tupP (n, u, v))) := by
      rw [upd_same]
      show _ = some (HO.tup [.int ((n : Nat) : Int), .str (sW u), .str (sW v)])
      rw [s1, s2]
    generalize upd H4 t0 (.tup [.int ((n : Nat) : Int), .str z1, .str z2]) = H5 at gt0 kt0 ⊢
    have kD5 := gt0 _ _ kD
    have g05 := g04.trans gt0
    refine ⟨_, rfl, t0, D, (n, u, v), L, .bl true, rfl, kt0, .inl kD5, ?_⟩
    cases eg : gr L (n, u, v) with
    | false =>
      have e : isB L (n, u, v) = false := by
        unfold isB
        rw [eg]
        rfl
      rw [e] at q
      exact ⟨false, rfl, if_pos_of rfl (q H5 g05)⟩
    | true =>
    refine ⟨true, rfl, if_neg_of (by decide) ?_⟩
    refine ⟨D, _, kD5, True.intro, fun od => ?_⟩
    have kf : upd H5 D (.frz od (.dT (rowsT L (.bl true)))) D = some (.frz od (.dT (rowsT L (.bl true)))) := upd_same
    have g06 : Grows H (upd H5 D (.frz od (.dT (rowsT L (.bl true))))) := fun c o e => by
      rw [upd_ne (ne_of_none e nDH)]
      exact g05 _ _ e
    generalize upd H5 D (.frz od (.dT (rowsT L (.bl true)))) = H6 at kf g06 ⊢
    have back : ∀ H', Grows H6 H' → Grows H (upd H' D (.dT (rowsT L (.bl true)))) := fun H' g c o e => by
      rw [upd_ne (ne_of_none e nDH)]
      exact g _ _ (g06 _ _ e)
    refine ⟨_, rfl, D, od, rfl, .inr ⟨rowsT L (.bl true), kf, for_it walk_keysT (fun k σ H' => (∃ w6 w7 w8 w9 : Option V, σ = [some (.str ls), some (.int ((n : Nat) : Int)), some (.str z1), some (.str z2), some (.ref a), some (.ref D), w6, w7, w8, w9]) ∧ Grows H6 H' ∧ ∀ t ∈ L.take k, okT L t = true)
      ⟨⟨_, _, _, _, rfl⟩, Grows.refl H6, fun t ht => by cases ht⟩ (fun _ _ H' _ p => p.2.1 _ _ kf) ?_ ?_⟩⟩
    · rintro k y σ H7x H7 hk ⟨⟨w6, w7, w8, w9, rfl⟩, g7, old⟩ ⟨rfl, key, vv, qk, hkk, rfl, hq⟩
      obtain ⟨t, ht, rfl⟩ : ∃ t, L[k]? = some t ∧ key = kP t := by
        unfold rowsT at hkk
        rw [List.getElem?_map] at hkk
        cases e : L[k]? with
        | none => rw [e] at hkk; cases hkk
        | some t => rw [e] at hkk; exact ⟨t, rfl, (Prod.mk.inj (Option.some.inj hkk)).1.symm⟩
      have tm := List.mem_of_getElem? ht
      obtain ⟨h1, h4, o1, o2⟩ := okL t tm
      have lw : ∀ {x : Wl}, okWord ls (sW x) 12 = true → x.length ≤ 12 := fun {x} h => by
        unfold okWord at h
        rw [Bool.and_eq_true, decide_eq_true_eq, sW_len] at h
        omega
      have hq : H7 qk = some (.tup (tupP t)) := hq
      obtain ⟨tn, x, y⟩ := t
      obtain ⟨m, rfl⟩ : ∃ m, tn = m + 1 := ⟨tn - 1, by have h1 : 1 ≤ tn := h1; omega⟩
      have bad : okT L (m + 1, x, y) = false → isB L (n, u, v) = false := fun e => by
        cases ei : isB L (n, u, v) with
        | false => rfl
        | true =>
          unfold isB at ei
          rw [Bool.and_eq_true, List.all_eq_true] at ei
          rw [ei.2 _ tm] at e
          cases e
      have hm : m + 1 ≤ 4 := h4
      refine ⟨qk, _, rfl, .inl (.inl hq), rfl, _, _, rfl, _, _, rfl, _, _, rfl, rfl, ?_⟩
      refine ⟨_, rfl, _, rfl, _, rfl, _, rfl, m, x, y, D, L, .bl true, true, rfl, hm, .inr ⟨od, g7 _ _ kf⟩, lw o1, lw o2, fun H8 g8 => ?_⟩
      have g78 := g7.trans g8
      cases e1 : hasK L true m x y with
      | false =>
        refine ⟨_, rfl, if_pos_of rfl ⟨g78 _ _ kf, ?_⟩⟩
        rw [bad (by show (hasK L true m x y && _) = false; rw [e1]; rfl)] at q
        exact q _ (back H8 g78)
      | true =>
      refine ⟨_, rfl, if_neg_of (by decide) ?_⟩
      refine ⟨_, rfl, _, rfl, _, rfl, _, rfl, m, y, x, D, L, .bl true, false, rfl, hm, .inr ⟨od, g78 _ _ kf⟩, lw o2, lw o1, fun H9 g9 => ?_⟩
      have g79 := g78.trans g9
      cases e2 : hasK L false m y x with
      | false =>
        refine ⟨_, rfl, if_pos_of rfl ⟨g79 _ _ kf, ?_⟩⟩
        rw [bad (by show (hasK L true m x y && hasK L false m y x) = false; rw [e1, e2]; rfl)] at q
        exact q _ (back H9 g79)
      | true =>
      refine ⟨_, rfl, if_neg_of (by decide) ⟨⟨_, _, _, _, rfl⟩, g79, fun t ht' => ?_⟩⟩
      rw [take_snoc ht] at ht'
      rcases List.mem_append.mp ht' with h | h
      · exact old t h
      · rw [List.mem_singleton.mp h]
        show (hasK L true m x y && hasK L false m y x) = true
        rw [e1, e2]
        rfl
    · rintro σ H7 ⟨⟨w6, w7, w8, w9, rfl⟩, g7, all⟩
      have ln : (rowsT L (.bl true)).length = L.length := by unfold rowsT; rw [List.length_map]
      rw [ln, List.take_length] at all
      have e : isB L (n, u, v) = true := by
        unfold isB
        rw [eg, Bool.true_and, List.all_eq_true]
        exact all
      rw [e] at q
      exact ⟨g7 _ _ kf, q _ (back H7 g7)⟩
end
end SWL
set_option Elab.async false
set_option linter.all false
set_option maxRecDepth 100000
set_option maxHeartbeats 8000000
namespace SWL
open PySem PySem.Spec PyProof.Rows L2 LamX
/-! the law's own judging of bonds -/
abbrev ttFit : TT := tAnd (tB (tCall spGr [] E0 (tCons (tTup (tCons (tOp rSub (tVar 9) (tC (.int 1))) (tCons (tSl rSlS (tVar 10) tNoPart (tPart (tVar 12))) (tCons (tSl rSlS (tVar 11) tNoPart (tPart (tVar 13))) tNil)))) (tCons (tVar 8) tNil))))
  (tB (tCall spGr [] E0 (tCons (tTup (tCons (tOp rSub (tVar 9) (tC (.int 1))) (tCons (tSl rSlS (tVar 10) (tPart (tOp rAdd (tVar 12) (tC (.int 1)))) tNoPart) (tCons (tSl rSlS (tVar 11) (tPart (tOp rAdd (tVar 13) (tC (.int 1)))) tNoPart) tNil)))) (tCons (tVar 8) tNil))))
theorem fit_go {σ : L2.St} {H : Hp} {Q : Bool → Hp → Prop} {m i j : Nat} {u v : Wl} {D : Addr} {L : List Tp} {y : V} (h8 : σ[8]? = some (some (.ref D))) (h9 : σ[9]? = some (some (.int ((m + 1 : Nat) : Int)))) (h10 : σ[10]? = some (some (.str (sW u)))) (h11 : σ[11]? = some (some (.str (sW v)))) (h12 : σ[12]? = some (some (.int ((i : Nat) : Int)))) (h13 : σ[13]? = some (some (.int ((j : Nat) : Int))))
    (kd : Rd H D (.dT (rowsT L y))) (lu : u.length ≤ 12) (lv : v.length ≤ 12) (q : ∀ H', Grows H H' → Q (gr L (m, u.take i, v.take j) && gr L (m, u.drop (i + 1), v.drop (j + 1))) H') : ttFit σ H Q := by
  have sz : sizeLine = 16777216 := sizeLine_eq
  have lsu : (sW u).length = u.length := sW_len u
  have lsv : (sW v).length = v.length := sW_len v
  have n1 : (((m + 1 : Nat) : Int) - 1) = ((m : Nat) : Int) := by omega
  have c1 : cutS (sW u) none (some ((i : Nat) : Int)) = sW (u.take i) := sW_eq (by rw [cut_to, sW_cps])
  have c2 : cutS (sW v) none (some ((j : Nat) : Int)) = sW (v.take j) := sW_eq (by rw [cut_to, sW_cps])
  have c3 : cutS (sW u) (some ((i + 1 : Nat) : Int)) none = sW (u.drop (i + 1)) := sW_eq (by rw [cut_from, sW_cps])
  have c4 : cutS (sW v) (some ((j + 1 : Nat) : Int)) none = sW (v.drop (j + 1)) := sW_eq (by rw [cut_from, sW_cps])
  refine ⟨_, h9, _, _, rfl, rfl, _, h10, ?_⟩
  dsimp only [tNoPart]
  refine ⟨_, h12, _, rfl, sW u, rfl, by omega, _, h11, ?_⟩
  dsimp only [tNoPart]
  refine ⟨_, h13, _, rfl, sW v, rfl, by omega, by show 3 ≤ sizeLine; omega, fun p np => ?_⟩
  rw [n1, c1, c2]
  have g1 : Grows H (upd H p (.tup [.int ((m : Nat) : Int), .str (sW (u.take i)), .str (sW (v.take j))])) := Grows.new np
  have k1 : upd H p (.tup [.int ((m : Nat) : Int), .str (sW (u.take i)), .str (sW (v.take j))]) p = some (.tup (tupP (m, u.take i, v.take j))) := upd_same
  generalize upd H p (.tup [.int ((m : Nat) : Int), .str (sW (u.take i)), .str (sW (v.take j))]) = H1 at g1 k1 ⊢
  refine ⟨_, h8, p, D, (m, u.take i, v.take j), L, y, rfl, k1, g1.rd kd, _, rfl, ?_⟩
  cases e : gr L (m, u.take i, v.take j) with
  | false =>
    rw [e] at q
    exact if_neg_of (by decide) (q H1 g1)
  | true =>
  rw [e] at q
  refine if_pos_of rfl ⟨_, h9, _, _, rfl, rfl, _, h10, _, h12, _, _, rfl, rfl, _, rfl, ?_⟩
  dsimp only [tNoPart]
  refine ⟨sW u, rfl, by omega, _, h11, _, h13, _, _, rfl, rfl, _, rfl, ?_⟩
  dsimp only [tNoPart]
  refine ⟨sW v, rfl, by omega, by show 3 ≤ sizeLine; omega, fun p2 np2 => ?_⟩
  have ei : (((i : Nat) : Int) + 1) = ((i + 1 : Nat) : Int) := by omega
  have ej : (((j : Nat) : Int) + 1) = ((j + 1 : Nat) : Int) := by omega
  rw [n1, ei, ej, c3, c4]
  have g2 : Grows H1 (upd H1 p2 (.tup [.int ((m : Nat) : Int), .str (sW (u.drop (i + 1))), .str (sW (v.drop (j + 1)))])) := Grows.new np2
  have k2 : upd H1 p2 (.tup [.int ((m : Nat) : Int), .str (sW (u.drop (i + 1))), .str (sW (v.drop (j + 1)))]) p2 = some (.tup (tupP (m, u.drop (i + 1), v.drop (j + 1)))) := upd_same
  generalize upd H1 p2 (.tup [.int ((m : Nat) : Int), .str (sW (u.drop (i + 1))), .str (sW (v.drop (j + 1)))]) = H2 at g2 k2 ⊢
  exact ⟨_, h8, p2, D, (m, u.drop (i + 1), v.drop (j + 1)), L, y, rfl, k2, (g1.trans g2).rd kd, _, rfl, q H2 (g1.trans g2)⟩
theorem walk_nums {K : PySem.W.Frag} {D : Addr} (l : List Nat) : Walk (Itl K D) l.length (fun H => SqL K H D (nums l)) (YAt (l.map fun j => V.int ((j : Nat) : Int))) := by
  have := walk_list (K := K) (a := D) (xs := nums l)
  unfold nums at this ⊢
  rw [List.length_map] at this
  exact this
theorem putAll_rows (y : V) : ∀ (ps : List PairIn) (l ts : List Tp), ps.map (·.key) = ts.map kP → (∀ p ∈ ps, p.val = y) → putAll (rowsT l y) ps = rowsT (ts.foldl oneP l) y
  | [], l, [], _, _ => rfl
  | [], l, t :: ts, h, _ => by cases h
  | p :: ps, l, [], h, _ => by cases h
  | p :: ps, l, t :: ts, h, hv => by
    rw [List.map_cons, List.map_cons] at h
    obtain ⟨h1, h2⟩ := List.cons.inj h
    show putAll (putK (rowsT l y) p.key p.val) ps = _
    rw [h1, hv p List.mem_cons_self, rowsT_put]
    exact putAll_rows y ps _ ts h2 fun q hq => hv q (List.mem_cons_of_mem _ hq)
def spLawBd (K : PySem.W.Frag) : Sp := fun vs H Q _ => ∃ (ls : Str) (n : Nat) (u v : Wl) (th : V) (o : Option (List (Option Tp))), vs = [.str ls, .int ((n : Nat) : Int), .str (sW u), .str (sW v), th] ∧ ls.length ≤ 1000 ∧ GiveAt K ls H th o ∧ ∀ H', Grows H H' → Q (.bl (giveB o (n, u, v))) H'
abbrev NLb : List Str := ["letters", "n", "one", "other", "value", "triple", "word", "sign", "known", "k", "u", "v", "at", "there", "some", "letter"]
section
variable {P : Program} {w : World} {K : PySem.W.Frag} {mg : Str → Option Value} {base : Heap}
theorem scLBd : FnScope NLb ["letters", "n", "one", "other", "value"] (defScope sLawBd) := ⟨rfl, rfl, rfl, by decide +kernel, rfl, by decide +kernel, by decide +kernel⟩
theorem ok_lawBd {f fR : Addr} {fd fdR : FuncData} (F : L2.Fun K "_law_bd_is" "_law_bd_is" sLawBd f fd) (B : Blt mg)
    (GR : FnOk P w K mg base CX0 1 fR fdR ["triple", "known"] spGr) (DR : Def mg K "_law_bd_granted" fR fdR ["triple", "known"]) : FnOk P w K mg base CX0 3 f fd ["letters", "n", "one", "other", "value"] (spLawBd K) := by
  refine F.ok scLBd (fun vs H Q E h => ?_) (fun cdv A outer s H vs Q E hr h => ⟨_,
    (pss_cons (ps_if (pt_not (pt_truth (pe_callB call_isiT (by rfl) B.isi (by decide +kernel) (pa_cons (pv 4) (pa_cons (pe_tup (pa_cons (pe_bltn (u := .type "list") (v := .ty "list") (by rfl) B.list (by decide +kernel) rfl) (pa_cons (pe_bltn (u := .type "tuple") (v := .ty "tuple") (by rfl) B.tuple (by decide +kernel) rfl) pa_nil))) pa_nil))) (by intro _; rfl))) (pss_one (ps_ret pe_bl)) pss_nil)
      (pss_cons (ps_for PassesOwn.never rfl (pi_or (pi_list (pv 4)) (pi_tup (pv 4))) (pg_name (i := 5) scLBd.nd rfl (Or.inl rfl)) (pss_cons (ps_if (PW.pt (pw_or (pt_not (pt_truth (pe_callB call_isi (by rfl) B.isi (by decide +kernel) (pa_cons (pv 5) (pa_cons (pe_bltn (u := .type "tuple") (v := .ty "tuple") (by rfl) B.tuple (by decide +kernel) rfl) pa_nil))) (by intro _; rfl))) (pw_or (pt_cmpR op_ne (pe_callB call_len_seq (by rfl) B.len PySem.boot_len (pa_cons (pv 5) pa_nil)) pe_int (nomark _)) (pw_or (pt_not (pt_truth (pe_callB call_isi (by rfl) B.isi (by decide +kernel) (pa_cons (pe_ix ix_tup (pv 5) pe_int (fun _ _ => rfl)) (pa_cons (pe_bltn (u := .type "int") (v := .ty "int") (by rfl) B.int (by decide +kernel) rfl) pa_nil))) (by intro _; rfl))) (pw_or (pt_truth (pe_callB call_isi (by rfl) B.isi (by decide +kernel) (pa_cons (pe_ix ix_tup (pv 5) pe_int (fun _ _ => rfl)) (pa_cons (pe_bltn (u := .type "bool") (v := .ty "bool") (by rfl) B.bool (by decide +kernel) rfl) pa_nil))) (by intro _; rfl)) (pw_or1 (pt_not (pt_chain op_le op_le pe_int (pe_ix ix_tup (pv 5) pe_int (fun _ _ => rfl)) pe_int)))))))) (pss_one (ps_ret pe_bl)) pss_nil)
      (pss_one (ps_for PassesOwn.never rfl (pi_tup (pe_slice sl_tup (pv 5) (po_some pe_int) po_none)) (pg_name (i := 6) scLBd.nd rfl (Or.inl rfl)) (pss_one (ps_if (PW.pt (pw_or (pt_not (pt_truth (pe_callB call_isi (by rfl) B.isi (by decide +kernel) (pa_cons (pv 6) (pa_cons (pe_bltn (u := .type "str") (v := .ty "str") (by rfl) B.str (by decide +kernel) rfl) pa_nil))) (by intro _; rfl))) (pw_or (pt_cmpR op_gt (pe_callB call_len_str (by rfl) B.len PySem.boot_len (pa_cons (pv 6) pa_nil)) pe_int (nomark _)) (pw_or1 (pt_cmpR (op_neD (by have := hr.un; show (A.deeper _).units + 64 < _; omega)) (pe_lc (own := [("sign", 7)]) (g := (gName 7)) (tt := (tTest (tOp rNotInS (tVar 7) (tVar 0)))) (te := (tC (.int 1))) rfl scLBd.nd (pi_str (pv 6)) (blkOk_by (N := NLb) (sc := defScope sLawBd) (by decide +kernel)) (fun _ _ _ _ _ => (pg_name (i := 7) scLBd.nd rfl (Or.inl rfl))) (fun _ _ _ _ _ => pts_one (pt_cmpR op_notInS (pv 7) (pv 0) rfl)) (fun _ _ _ _ _ => pe_int)) (pe_lst pa_nil) (nomark _)))))) (pss_one (ps_ret pe_bl)) pss_nil))))))
      (pss_cons (ps_set (i := 8) scLBd.nd rfl (Or.inr rfl) (pe_callTy (cr_dictT rfl (by have := hr.un; show (A.deeper _).units + 64 < _; omega)) (by rfl) B.dict (by decide +kernel) (pa_cons (pe_lc (own := [("triple", 5)]) (g := (gName 5)) (tt := tYes) (te := (tTup (tCons (tVar 5) (tCons (tC (.bl true)) tNil)))) rfl scLBd.nd (pi_or (pi_list (pv 4)) (pi_tup (pv 4))) (blkOk_by (N := NLb) (sc := defScope sLawBd) (by decide +kernel)) (fun _ _ _ _ _ => (pg_name (i := 5) scLBd.nd rfl (Or.inl rfl))) (fun _ _ _ _ _ => pts_nil) (fun _ _ _ _ _ => (pe_tup (pa_cons (pv 5) (pa_cons pe_bl pa_nil))))) pa_nil)))
      (pss_cons (ps_if (pt_not (pt_truth (pe_call GR (hr.mono (by decide)) (by rfl) DR.g DR.k DR.b .nil pass0 (pa_cons (pe_tup (pa_cons (pv 1) (pa_cons (pv 2) (pa_cons (pv 3) pa_nil)))) (pa_cons (pv 8) pa_nil))) (by intro _; rfl))) (pss_one (ps_ret pe_bl)) pss_nil)
      (pss_cons (ps_lock (ps_for PassesOwn.never rfl (pi_keys (pv 8)) (pg_tup rfl (pgs_cons (pg_name (i := 9) scLBd.nd rfl (Or.inr rfl)) (pgs_cons (pg_name (i := 10) scLBd.nd rfl (Or.inr rfl)) (pgs_cons (pg_name (i := 11) scLBd.nd rfl (Or.inr rfl)) pgs_nil)))) (pss_cons (ps_for PassesOwn.never rfl (pi_enumS (by rfl) B.enum (pa_cons (pv 10) pa_nil)) (pg_tup rfl (pgs_cons (pg_name (i := 12) scLBd.nd rfl (Or.inr rfl)) (pgs_cons (pg_name (i := 7) scLBd.nd rfl (Or.inr rfl)) pgs_nil))) (pss_cons (ps_setLc (i := 14) (own := [("there", 13), ("letter", 15)]) (g := (gTup K 2 (gCons (gName 13) (gCons (gName 15) gNil)))) (tt := (tTest (tOp rEq (tVar 15) (tVar 7)))) (te := (tVar 13)) rfl scLBd.nd rfl rfl (sw_true rfl rfl rfl (by decide +kernel)) (pi_enumS (by rfl) B.enum (pa_cons (pv 11) pa_nil)) (blkOk_by (N := NLb) (sc := defScope sLawBd) (by decide +kernel)) (fun _ _ _ _ _ => (pg_tup rfl (pgs_cons (pg_name (i := 13) scLBd.nd rfl (Or.inl rfl)) (pgs_cons (pg_name (i := 15) scLBd.nd rfl (Or.inl rfl)) pgs_nil)))) (fun _ _ _ _ _ => pts_one (pt_cmpR op_eq (pv 15) (pv 7) (nomark _))) (fun _ _ _ _ _ => (pv 13)))
      (pss_cons (ps_setLc (i := 14) (own := [("there", 13)]) (g := (gName 13)) (tt := ttFit) (te := (tVar 13)) rfl scLBd.nd rfl rfl (sw_true rfl rfl rfl (by decide +kernel)) (pi_list (pv 14)) (blkOk_by (N := NLb) (sc := defScope sLawBd) (by decide +kernel)) (fun _ _ _ _ _ => (pg_name (i := 13) scLBd.nd rfl (Or.inl rfl))) (fun _ _ _ _ _ => pts_one (PW.pt (pw_and (pt_val (pe_call GR (hr.mono (by decide)) (by rfl) DR.g DR.k DR.b .nil pass0 (pa_cons (pe_tup (pa_cons (pe_op op_sub (pv 9) pe_int) (pa_cons (pe_slice sl_str (pv 10) po_none (po_some (pv 12))) (pa_cons (pe_slice sl_str (pv 11) po_none (po_some (pv 13))) pa_nil)))) (pa_cons (pv 8) pa_nil)))) (pw_and1 (pt_val (pe_call GR (hr.mono (by decide)) (by rfl) DR.g DR.k DR.b .nil pass0 (pa_cons (pe_tup (pa_cons (pe_op op_sub (pv 9) pe_int) (pa_cons (pe_slice sl_str (pv 10) (po_some (pe_op op_add (pv 12) pe_int)) po_none) (pa_cons (pe_slice sl_str (pv 11) (po_some (pe_op op_add (pv 13) pe_int)) po_none) pa_nil)))) (pa_cons (pv 8) pa_nil)))))))) (fun _ _ _ _ _ => (pv 13)))
      (pss_one (ps_if (pt_cmpR (op_eqD (by have := hr.un; show (A.deeper _).units + 64 < _; omega)) (pv 14) (pe_lst pa_nil) (nomark _)) (pss_one (ps_ret pe_bl)) pss_nil)))))
      (pss_one (ps_for PassesOwn.never rfl (pi_enumS (by rfl) B.enum (pa_cons (pv 11) pa_nil)) (pg_tup rfl (pgs_cons (pg_name (i := 13) scLBd.nd rfl (Or.inr rfl)) (pgs_cons (pg_name (i := 7) scLBd.nd rfl (Or.inr rfl)) pgs_nil))) (pss_cons (ps_setLc (i := 14) (own := [("at", 12), ("letter", 15)]) (g := (gTup K 2 (gCons (gName 12) (gCons (gName 15) gNil)))) (tt := (tTest (tOp rEq (tVar 15) (tVar 7)))) (te := (tVar 12)) rfl scLBd.nd rfl rfl (sw_true rfl rfl rfl (by decide +kernel)) (pi_enumS (by rfl) B.enum (pa_cons (pv 10) pa_nil)) (blkOk_by (N := NLb) (sc := defScope sLawBd) (by decide +kernel)) (fun _ _ _ _ _ => (pg_tup rfl (pgs_cons (pg_name (i := 12) scLBd.nd rfl (Or.inl rfl)) (pgs_cons (pg_name (i := 15) scLBd.nd rfl (Or.inl rfl)) pgs_nil)))) (fun _ _ _ _ _ => pts_one (pt_cmpR op_eq (pv 15) (pv 7) (nomark _))) (fun _ _ _ _ _ => (pv 12)))
      (pss_cons (ps_setLc (i := 14) (own := [("at", 12)]) (g := (gName 12)) (tt := ttFit) (te := (tVar 12)) rfl scLBd.nd rfl rfl (sw_true rfl rfl rfl (by decide +kernel)) (pi_list (pv 14)) (blkOk_by (N := NLb) (sc := defScope sLawBd) (by decide +kernel)) (fun _ _ _ _ _ => (pg_name (i := 12) scLBd.nd rfl (Or.inl rfl))) (fun _ _ _ _ _ => pts_one (PW.pt (pw_and (pt_val (pe_call GR (hr.mono (by decide)) (by rfl) DR.g DR.k DR.b .nil pass0 (pa_cons (pe_tup (pa_cons (pe_op op_sub (pv 9) pe_int) (pa_cons (pe_slice sl_str (pv 10) po_none (po_some (pv 12))) (pa_cons (pe_slice sl_str (pv 11) po_none (po_some (pv 13))) pa_nil)))) (pa_cons (pv 8) pa_nil)))) (pw_and1 (pt_val (pe_call GR (hr.mono (by decide)) (by rfl) DR.g DR.k DR.b .nil pass0 (pa_cons (pe_tup (pa_cons (pe_op op_sub (pv 9) pe_int) (pa_cons (pe_slice sl_str (pv 10) (po_some (pe_op op_add (pv 12) pe_int)) po_none) (pa_cons (pe_slice sl_str (pv 11) (po_some (pe_op op_add (pv 13) pe_int)) po_none) pa_nil)))) (pa_cons (pv 8) pa_nil)))))))) (fun _ _ _ _ _ => (pv 12)))
      (pss_one (ps_if (pt_cmpR (op_eqD (by have := hr.un; show (A.deeper _).units + 64 < _; omega)) (pv 14) (pe_lst pa_nil) (nomark _)) (pss_one (ps_ret pe_bl)) pss_nil)))))))))
      (pss_one (ps_ret pe_bl))))))), ?_⟩)
  · obtain ⟨ls, n, u, v, th, o, rfl, _⟩ := h
    rfl
  · obtain ⟨ls, n, u0, v0, th, o, rfl, hls, hgive, q⟩ := h
    have sz : sizeLine = 16777216 := sizeLine_eq
    refine ⟨_, rfl, by show 2 ≤ sizeLine; decide, fun tp ntp => ?_⟩
    have gt : Grows H (upd H tp (.tup [.ty "list", .ty "tuple"])) := Grows.new ntp
    have kt : upd H tp (.tup [.ty "list", .ty "tuple"]) tp = some (.tup [.ty "list", .ty "tuple"]) := upd_same
    generalize upd H tp (.tup [.ty "list", .ty "tuple"]) = H1 at gt kt ⊢
    have give1 := hgive.grows gt
    cases o with
    | none =>
      obtain rfl : th = .non := hgive
      exact ⟨.non, tp, _, .type "NoneType", [.type "list", .type "tuple"], false, rfl, kt, .cons (.ty _) (.cons (.ty _) .nil), .base .non, NotSeq.kit (by decide +kernel) (by decide +kernel), false, rfl, if_pos_of rfl (q H1 gt)⟩
    | some os =>
    obtain ⟨a, xs, rfl, s1, p1, lx⟩ := give1
    obtain ⟨t, ty, ka⟩ := ty_sq s1
    refine ⟨.ref a, tp, _, .type t, [.type "list", .type "tuple"], true, rfl, kt, .cons (.ty _) (.cons (.ty _) .nil), ty, ka, true, rfl, if_neg_of (by decide) ?_⟩
    have lo : xs.length = os.length := Paired.length p1
    -- the things
    refine either_go rfl s1 fun J G wk hG => for_it wk (fun k σ H' => (∃ w5 w6 w7 : Option V, σ = [some (.str ls), some (.int ((n : Nat) : Int)), some (.str (sW u0)), some (.str (sW v0)), some (.ref a), w5, w6, w7, none, none, none, none, none, none, none, none]) ∧ Grows H1 H' ∧ ∀ o ∈ os.take k, fitO o = true)
      ⟨⟨_, _, _, rfl⟩, Grows.refl H1, fun o ho => by cases ho⟩ (fun _ _ H' _ p => hG H' p.2.1) ?_ ?_
    · rintro k x σ H2 H3 hk ⟨⟨w5, w6, w7, rfl⟩, g2, old⟩ ⟨rfl, hx⟩
      obtain ⟨o, ho, io⟩ := paired_idx p1 hx
      have io := io.keep fun b zs z => g2 _ _ z
      have bad : fitO o = false → ∀ H', Grows H3 H' → Q (.bl false) H' := fun e H' g => by
        have ea : os.all fitO = false := by
          cases ea : os.all fitO with
          | false => rfl
          | true => rw [List.all_eq_true.mp ea o (List.mem_of_getElem? ho)] at e; cases e
        have eg : giveB (some os) (n, u0, v0) = false := by
          show (os.all fitO && _) = false
          rw [ea]
          rfl
        rw [eg] at q
        exact q H' ((gt.trans g2).trans g)
      cases o with
      | none =>
        obtain rfl : x = .non := io
        exact ⟨_, rfl, .non, .ty "tuple", .type "NoneType", .type "tuple", false, rfl, .ty "tuple", .base .non, kit_ty (by decide +kernel), false, rfl, if_pos_of rfl (bad rfl H3 (Grows.refl H3))⟩
      | some t =>
      obtain ⟨⟨p, rfl, hp⟩, h4, o1, o2⟩ := io
      have sp : SqT K H3 p (tupP t) := .inl (.inl hp)
      refine ⟨_, rfl, .ref p, .ty "tuple", .type "tuple", .type "tuple", true, rfl, .ty "tuple", ty_tuple sp, kit_ty (by decide +kernel), true, rfl, if_neg_of (by decide) ?_⟩
      refine ⟨_, rfl, p, _, rfl, .inr sp, rfl, _, rfl, if_neg_of (by show ¬ (!decide (V.int ((3 : Nat) : Int) = V.int 3)) = true; decide) ?_⟩
      refine ⟨_, rfl, p, _, _, _, rfl, rfl, sp, atI_nat (j := 0) rfl, .int _, .ty "int", .type "int", .type "int", true, rfl, .ty "int", .base (.int _), kit_ty (by decide +kernel), true, rfl, if_neg_of (by decide) ?_⟩
      refine ⟨_, rfl, p, _, _, _, rfl, rfl, sp, atI_nat (j := 0) rfl, .int _, .ty "bool", .type "int", .type "bool", false, rfl, .ty "bool", .base (.int _), kit_ty (by decide +kernel), false, rfl, if_neg_of (by decide) ?_⟩
      by_cases h1 : 1 ≤ t.1
      case neg =>
        exact ⟨_, rfl, p, _, _, _, rfl, rfl, sp, atI_nat (j := 0) rfl, _, _, rfl, rfl, _, rfl, if_neg_of (by rw [decide_eq_false (by omega)]; decide) ⟨false, rfl, if_pos_of rfl (bad (decide_eq_false h1) H3 (Grows.refl H3))⟩⟩
      refine ⟨_, rfl, p, _, _, _, rfl, rfl, sp, atI_nat (j := 0) rfl, _, _, rfl, rfl, _, rfl, if_pos_of (decide_eq_true (by omega)) ⟨_, _, rfl, rfl, _, rfl, if_neg_of (by rw [decide_eq_true (show ((t.1 : Nat) : Int) ≤ 4 by omega)]; decide) ?_⟩⟩
      refine ⟨_, rfl, _, rfl, p, tupP t, rfl, sp, (by show ¬ (HT.sIx 3 0 (some 1) = 0 ∧ HT.sIx 3 3 none = 3); decide), fun t2 nt2 => ?_⟩
      have gt2 : Grows H3 (upd H3 t2 (.tup (cutV (tupP t) (some 1) none))) := Grows.new nt2
      have kt2 : upd H3 t2 (.tup (cutV (tupP t) (some 1) none)) t2 = some (.tup [.str (sW t.2.1), .str (sW t.2.2)]) := upd_same
      generalize upd H3 t2 (.tup (cutV (tupP t) (some 1) none)) = H4 at gt2 kt2 ⊢
      refine ⟨t2, rfl, ⟨_, .inl (.inl kt2)⟩, for_it (walk_tup (K := K) (a := t2) (xs := [.str (sW t.2.1), .str (sW t.2.2)])) (fun j σ H' => (∃ w6 w7 : Option V, σ = [some (.str ls), some (.int ((n : Nat) : Int)), some (.str (sW u0)), some (.str (sW v0)), some (.ref a), some (.ref p), w6, w7, none, none, none, none, none, none, none, none]) ∧ Grows H4 H')
        ⟨⟨_, _, rfl⟩, Grows.refl H4⟩ (fun _ _ H' _ hh => .inl (.inl (hh.2 _ _ kt2))) ?_ ?_⟩
      · rintro j y σ H5x H5 hj ⟨⟨w6, w7, rfl⟩, g5⟩ ⟨rfl, hy⟩
        obtain ⟨z, rfl, oz⟩ : ∃ z : Str, y = .str z ∧ okWord ls z 12 = true := by
          rcases j with _ | _ | j
          · exact ⟨_, (Option.some.inj hy).symm, o1⟩
          · exact ⟨_, (Option.some.inj hy).symm, o2⟩
          · have hj : j + 2 < 2 := hj
            omega
        have oz' := oz
        unfold okWord at oz'
        rw [Bool.and_eq_true, decide_eq_true_eq, List.all_eq_true] at oz'
        obtain ⟨zl, za⟩ := oz'
        refine ⟨_, rfl, .str z, .ty "str", .type "str", .type "str", true, rfl, .ty "str", .base (.str z), kit_ty (by decide +kernel), true, rfl, if_neg_of (by decide) ?_⟩
        refine ⟨_, rfl, z, rfl, by omega, _, _, rfl, rfl, _, rfl, if_neg_of (by rw [decide_eq_false (by omega)]; decide) ?_⟩
        refine ⟨_, rfl, z, rfl, fun E nE => comp1 (i := 7) (te := (tC (.int 1))) (tt := (tTest (tOp rNotInS (tVar 7) (tVar 0)))) (I := z.cps.toList) (gv := fun c => V.str ⟨#[c]⟩) (by have := walk_signs z; unfold signsV at this; rw [List.length_map] at this; exact this) (fun c => !decide (c ∈ ls.cps.toList)) (fun _ => .int 1) nE (fun _ _ => trivial) (by rw [cut_len]; omega) (fun c H k hc g hk => ?_) (fun c H Q hc _ g hq => hq H (Grows.refl H)) (fun H6 g6 kE => ?_)⟩
        · exact ⟨_, rfl, _, rfl, c, ls, rfl, rfl, _, rfl, hk H (Grows.refl H)⟩
        have kE : H6 E = some (.lst (((z.cps.toList.filter fun c => !decide (c ∈ ls.cps.toList)).map fun _ => (1 : Int)).map V.int)) := by rw [kE, List.map_map]; rfl
        refine ⟨by show 0 ≤ sizeLine; decide, fun e ne => ?_⟩
        have ge : Grows H6 (upd H6 e (.lst [])) := Grows.new ne
        have ke : upd H6 e (.lst []) e = some (.lst []) := upd_same
        generalize upd H6 e (.lst []) = H7 at ge ke ⊢
        refine ⟨.list (((z.cps.toList.filter fun c => !decide (c ∈ ls.cps.toList)).map fun _ => (1 : Int)).map PyData.int), .list [], .lst (.inl (.inl (ge _ _ kE))) dp_ints, .lst (.inl (.inl ke)) .nil, shaped_ints _, rfl, _, rfl, ?_⟩
        rw [eqv_nil]
        have hf : (z.cps.toList.filter fun c => !decide (c ∈ ls.cps.toList)) = [] := by
          rw [List.filter_eq_nil_iff]
          intro c hc
          rw [za c hc]
          decide
        refine if_neg_of (by rw [hf]; decide) ⟨⟨_, _, rfl⟩, (g5.trans g6).trans ge⟩
      · rintro σ H5 ⟨⟨w6, w7, rfl⟩, g5⟩
        refine ⟨⟨_, _, _, rfl⟩, (g2.trans gt2).trans g5, fun o ho' => ?_⟩
        rw [take_snoc ho] at ho'
        rcases List.mem_append.mp ho' with h | h
        · exact old o h
        · rw [List.mem_singleton.mp h]
          exact decide_eq_true h1
    rintro σ H2 ⟨⟨w5, w6, w7, rfl⟩, g2, all⟩
    rw [lo, List.take_length] at all
    have hall : os.all fitO = true := List.all_eq_true.mpr all
    obtain ⟨ts, rfl, pT, okT_⟩ := all_tris p1 hall
    have eB : giveB (some (ts.map some)) (n, u0, v0) = isB (firstsP ts) (n, u0, v0) := by
      show bondB (ts.map some) _ = _
      rw [bondB_some ts _ fun t ht => (okT_ t ht).1]
      exact (isB_mem (firstsP_mem ts) _).symm
    rw [eB] at q
    have lt := Paired.length pT
    have pT2 : TpsAt H2 xs ts := pT.keep fun b zs z => g2 _ _ z
    have s2 : Sq K H2 a xs := g2.sq s1
    have g02 := gt.trans g2
    -- the dict
    refine either_go rfl s2 fun J G wk hG D nD => lc_it wk (fun k H' => Grows H2 H' ∧ ∃ ps : List PairIn, H' D = some (.lst (ps.map fun p => .ref p.at_)) ∧ (∀ p ∈ ps, p.ok H') ∧ ps.map (·.key) = (ts.take k).map kP ∧ ∀ p ∈ ps, p.val = .bl true) ⟨Grows.new nD, [], upd_same, (fun p hp => by cases hp), rfl, fun p hp => by cases hp⟩ (fun _ H' _ p => hG H' p.1) ?_ ?_
    · rintro k x H3 H4 hk ⟨g3, ps, kD, pok, pk, pv⟩ ⟨rfl, hx⟩
      obtain ⟨t, ht, b, rfl, kb⟩ := paired_idx pT2 hx
      refine ⟨rfl, _, rfl, by show 2 ≤ sizeLine; omega, fun t3 nt3 => ?_⟩
      have g4 : Grows H4 (upd H4 t3 (.tup [.ref b, .bl true])) := Grows.new nt3
      have k4 : upd H4 t3 (.tup [.ref b, .bl true]) t3 = some (.tup [.ref b, .bl true]) := upd_same
      generalize upd H4 t3 (.tup [.ref b, .bl true]) = H5 at g4 k4 ⊢
      have kD5 := g4 _ _ kD
      have off : ∀ c zs, H5 c = some (.tup zs) → upd H5 D (.lst (ps.map (fun p => V.ref p.at_) ++ [.ref t3])) c = some (.tup zs) := fun c zs z => by
        rw [upd_ne (ne_of z kD5 (by intro z; cases z))]
        exact z
      have lp : ps.length ≤ k := by
        have := congrArg List.length pk
        rw [List.length_map, List.length_map, List.length_take] at this
        omega
      refine ⟨_, kD5, by rw [List.length_map]; omega, fun c o e => ?_, ps ++ [⟨t3, b, kP t, .bl true⟩], ?_, fun p hp => ?_, ?_, fun p hp => ?_⟩
      · rw [upd_ne (ne_of_none e nD)]
        exact g4 _ _ (g3 _ _ e)
      · rw [upd_same, List.map_append]
        rfl
      · rcases List.mem_append.mp hp with h | h
        · obtain ⟨a1, a2⟩ := pok p h
          exact ⟨off _ _ (g4 _ _ a1), off _ _ (g4 _ _ a2)⟩
        · rw [List.mem_singleton.mp h]
          exact ⟨off _ _ k4, off _ _ (g4 _ _ (g3 _ _ kb))⟩
      · rw [take_snoc ht, List.map_append, List.map_append, pk]
        rfl
      · rcases List.mem_append.mp hp with h | h
        · exact pv p h
        · rw [List.mem_singleton.mp h]
    rintro H3 ⟨g3, ps, kD, pok, pk, pv⟩
    rw [lt, List.take_length] at pk
    refine ⟨D, ps, rfl, kD, pok, fun Dk nDk => ?_⟩
    have gk : Grows H3 (upd H3 Dk (.dT (putAll [] ps))) := Grows.new nDk
    have kDk : upd H3 Dk (.dT (putAll [] ps)) Dk = some (.dT (rowsT (firstsP ts) (.bl true))) := by
      rw [upd_same]
      have := putAll_rows (.bl true) ps [] ts pk pv
      rw [show putAll [] ps = rowsT (ts.foldl oneP []) (.bl true) from this]
      rfl
    generalize upd H3 Dk (.dT (putAll [] ps)) = H4 at gk kDk ⊢
    have g04 := (g02.trans g3).trans gk
    have nDH : H Dk = none := (g02.trans g3).not_new nDk
    have okL : ∀ t ∈ firstsP ts, 1 ≤ t.1 ∧ t.1 ≤ 4 ∧ okWord ls (sW t.2.1) 12 = true ∧ okWord ls (sW t.2.2) 12 = true := fun t ht => okT_ t ((firstsP_mem ts t).mp ht)
    generalize firstsP ts = L at kDk okL q
    clear g3 gk pT2 s2 nD nDk kD pok
    refine ⟨_, rfl, _, rfl, _, rfl, by show 3 ≤ sizeLine; omega, fun t0 nt0 => ?_⟩
    have gt0 : Grows H4 (upd H4 t0 (.tup [.int ((n : Nat) : Int), .str (sW u0), .str (sW v0)])) := Grows.new nt0
    have kt0 : upd H4 t0 (.tup [.int ((n : Nat) : Int), .str (sW u0), .str (sW v0)]) t0 = some (.tup (tupP (n, u0, v0))) := upd_same
    generalize upd H4 t0 (.tup [.int ((n : Nat) : Int), .str (sW u0), .str (sW v0)]) = H5 at gt0 kt0 ⊢
    have kD5 := gt0 _ _ kDk
    have g05 := g04.trans gt0
    refine ⟨_, rfl, t0, Dk, (n, u0, v0), L, .bl true, rfl, kt0, .inl kD5, ?_⟩
    cases eg : gr L (n, u0, v0) with
    | false =>
      have e : isB L (n, u0, v0) = false := by
        unfold isB
        rw [eg]
        rfl
      rw [e] at q
      exact ⟨false, rfl, if_pos_of rfl (q H5 g05)⟩
    | true =>
    refine ⟨true, rfl, if_neg_of (by decide) ?_⟩
    refine ⟨Dk, _, kD5, True.intro, fun od => ?_⟩
    have kf : upd H5 Dk (.frz od (.dT (rowsT L (.bl true)))) Dk = some (.frz od (.dT (rowsT L (.bl true)))) := upd_same
    have g06 : Grows H (upd H5 Dk (.frz od (.dT (rowsT L (.bl true))))) := fun c o e => by
      rw [upd_ne (ne_of_none e nDH)]
      exact g05 _ _ e
    generalize upd H5 Dk (.frz od (.dT (rowsT L (.bl true)))) = H6 at kf g06 ⊢
    have back : ∀ H', Grows H6 H' → Grows H (upd H' Dk (.dT (rowsT L (.bl true)))) := fun H' g c o e => by
      rw [upd_ne (ne_of_none e nDH)]
      exact g _ _ (g06 _ _ e)
    refine ⟨_, rfl, Dk, od, rfl, .inr ⟨rowsT L (.bl true), kf, for_it walk_keysT (fun k σ H' => (∃ w7 w9 w10 w11 w12 w13 w14 w15 : Option V, σ = [some (.str ls), some (.int ((n : Nat) : Int)), some (.str (sW u0)), some (.str (sW v0)), some (.ref a), w5, w6, w7, some (.ref Dk), w9, w10, w11, w12, w13, w14, w15]) ∧ Grows H6 H' ∧ ∀ t ∈ L.take k, okT L t = true)
      ⟨⟨_, _, _, _, _, _, _, _, rfl⟩, Grows.refl H6, fun t ht => by cases ht⟩ (fun _ _ H' _ p => p.2.1 _ _ kf) ?_ ?_⟩⟩
    case refine_2 =>
      rintro σ H7 ⟨⟨w7, w9, w10, w11, w12, w13, w14, w15, rfl⟩, g7, all⟩
      have ln : (rowsT L (.bl true)).length = L.length := by unfold rowsT; rw [List.length_map]
      rw [ln, List.take_length] at all
      have e : isB L (n, u0, v0) = true := by
        unfold isB
        rw [eg, Bool.true_and, List.all_eq_true]
        exact all
      rw [e] at q
      exact ⟨g7 _ _ kf, q _ (back H7 g7)⟩
    rintro k y' σ H7x H7 hk ⟨⟨w7, w9, w10, w11, w12, w13, w14, w15, rfl⟩, g7, old⟩ ⟨rfl, key, vv, qk, hkk, rfl, hq⟩
    obtain ⟨t, ht, rfl⟩ : ∃ t, L[k]? = some t ∧ key = kP t := by
      unfold rowsT at hkk
      rw [List.getElem?_map] at hkk
      cases e : L[k]? with
      | none => rw [e] at hkk; cases hkk
      | some t => rw [e] at hkk; exact ⟨t, rfl, (Prod.mk.inj (Option.some.inj hkk)).1.symm⟩
    have tm := List.mem_of_getElem? ht
    obtain ⟨h1, h4, o1, o2⟩ := okL t tm
    have lw : ∀ {x : Wl}, okWord ls (sW x) 12 = true → x.length ≤ 12 := fun {x} h => by
      unfold okWord at h
      rw [Bool.and_eq_true, decide_eq_true_eq, sW_len] at h
      omega
    have hq : H7 qk = some (.tup (tupP t)) := hq
    obtain ⟨tn, x, y⟩ := t
    obtain ⟨m, rfl⟩ : ∃ m, tn = m + 1 := ⟨tn - 1, by have h1 : 1 ≤ tn := h1; omega⟩
    have bad : okT L (m + 1, x, y) = false → isB L (n, u0, v0) = false := fun e => by
      cases ei : isB L (n, u0, v0) with
      | false => rfl
      | true =>
        unfold isB at ei
        rw [Bool.and_eq_true, List.all_eq_true] at ei
        rw [ei.2 _ tm] at e
        cases e
    have lx : x.length ≤ 12 := lw o1
    have ly : y.length ≤ 12 := lw o2
    refine ⟨qk, _, rfl, .inl (.inl hq), rfl, _, _, rfl, _, _, rfl, _, _, rfl, rfl, ?_⟩
    refine ⟨_, rfl, sW x, rfl, for_it walk_enumS (fun i σ H' => (∃ w7 w12 w13 w14 w15 : Option V, σ = [some (.str ls), some (.int ((n : Nat) : Int)), some (.str (sW u0)), some (.str (sW v0)), some (.ref a), w5, w6, w7, some (.ref Dk), some (.int ((m + 1 : Nat) : Int)), some (.str (sW x)), some (.str (sW y)), w12, w13, w14, w15]) ∧ Grows H7 H' ∧ ∀ i' c, i' < i → x[i']? = some c → hasO L true m x y i' c = true)
      ⟨⟨_, _, _, _, _, rfl⟩, Grows.refl H7, fun i' c h => absurd h (Nat.not_lt_zero i')⟩ (fun _ _ _ _ _ => trivial) ?_ ?_⟩
    · rintro i z' σ H8 H8' hi ⟨⟨w7, w12, w13, w14, w15, rfl⟩, g8, old_true⟩ ⟨tp2, _, _, rfl, ntp2, rfl, e1, e2⟩
      have hi : i < x.length := by have : i < (sW x).cps.toList.length := hi; rw [sW_cps] at this; exact this
      obtain ⟨c, hc⟩ : ∃ c, x[i]? = some c := ⟨_, List.getElem?_eq_getElem hi⟩
      have e1' := (Option.some.inj e1).symm
      have e2 : (sW x).cps.toList[i]?.map (fun c => V.str { cps := #[c] }) = some _ := e2
      rw [sW_cps, hc] at e2
      have e2' := (Option.some.inj e2).symm
      subst e1' e2'
      have gt2 : Grows H8 (upd H8 tp2 (.tup [.int ((i : Nat) : Int), .str ⟨#[c]⟩])) := Grows.new ntp2
      refine ⟨tp2, _, rfl, .inl (.inl upd_same), rfl, _, _, rfl, _, _, rfl, rfl, ?_⟩
      generalize upd H8 tp2 (.tup [.int ((i : Nat) : Int), .str ⟨#[c]⟩]) = H9 at gt2 ⊢
      have g9 := g8.trans gt2
      have lpl : (plF y c).length ≤ 12 := Nat.le_trans (plTo_len _ _ _) ly
      -- the places
      refine ⟨_, rfl, sW y, rfl, fun D1 nD1 => ?_⟩
      refine lc_it walk_enumS (fun k H' => Grows H9 H' ∧ H' D1 = some (.lst (nums (plTo y c k)))) ⟨Grows.new nD1, upd_same⟩ (fun _ _ _ _ => trivial) ?_ ?_
      · rintro k z2 Ha Hb hk ⟨ga, kD⟩ ⟨tp3, _, _, rfl, ntp3, rfl, f1, f2⟩
        have hk : k < y.length := by have : k < (sW y).cps.toList.length := hk; rw [sW_cps] at this; exact this
        obtain ⟨d, hd⟩ : ∃ d, y[k]? = some d := ⟨_, List.getElem?_eq_getElem hk⟩
        have f1' := (Option.some.inj f1).symm
        have f2 : (sW y).cps.toList[k]?.map (fun c => V.str { cps := #[c] }) = some _ := f2
        rw [sW_cps, hd] at f2
        have f2' := (Option.some.inj f2).symm
        subst f1' f2'
        have gb : Grows Ha (upd Ha tp3 (.tup [.int ((k : Nat) : Int), .str ⟨#[d]⟩])) := Grows.new ntp3
        refine ⟨tp3, _, rfl, .inl (.inl upd_same), rfl, _, _, rfl, _, _, rfl, rfl, rfl, ?_⟩
        generalize upd Ha tp3 (.tup [.int ((k : Nat) : Int), .str ⟨#[d]⟩]) = Hb at gb ⊢
        refine ⟨_, rfl, _, rfl, rfl, _, rfl, ?_⟩
        have ed : decide (V.str { cps := #[d] } = V.str { cps := #[c] }) = decide (d = c) := by
          rw [Bool.eq_iff_iff, decide_eq_true_eq, decide_eq_true_eq]
          exact ⟨fun h => sg_inj (V.str.inj h), fun h => by rw [h]⟩
        rw [ed]
        have ps := plTo_succ (c := c) hd
        have pl := plTo_len y c k
        by_cases e : d = c
        · refine if_pos_of (decide_eq_true e) ⟨_, rfl, _, gb _ _ kD, by unfold nums; rw [List.length_map]; omega, fun b o eb => ?_, ?_⟩
          · rw [upd_ne (ne_of_none eb nD1)]
            exact gb _ _ (ga _ _ eb)
          · rw [upd_same, ps, if_pos e]
            unfold nums
            rw [List.map_append]
            rfl
        · refine if_neg_of (by rw [decide_eq_false e]; decide) ⟨ga.trans gb, ?_⟩
          rw [ps, if_neg e, List.append_nil]
          exact gb _ _ kD
      rintro Ha ⟨ga, kD1⟩
      have kD1 : Ha D1 = some (.lst (nums (plF y c))) := by
        have e : (sW y).cps.toList.length = y.length := by rw [sW_cps]
        rw [e] at kD1
        exact kD1
      have g6a := (g7.trans g9).trans ga
      have kda : Rd Ha Dk (.dT (rowsT L (.bl true))) := .inr ⟨od, g6a _ _ kf⟩
      -- those that fit
      refine ⟨_, rfl, D1, rfl, ⟨_, .inl (.inl kD1)⟩, fun D2 nD2 => comp1 (i := 13) (te := tVar 13) (tt := ttFit) (I := plF y c) (gv := fun j => V.int ((j : Nat) : Int)) (walk_nums (K := K) (D := D1) (plF y c)) (fitK L true m x y i) (fun j => .int ((j : Nat) : Int)) nD2 (fun H' g => .inl (.inl (g _ _ kD1))) (by omega) (fun j H k hj g hk => ?_) (fun j H Q hj _ g hq => ⟨_, rfl, hq H (Grows.refl H)⟩) (fun Hb gb kD2 => ?_)⟩
      · exact fit_go (m := m) (i := i) (j := j) (u := x) (v := y) (D := Dk) (L := L) (y := .bl true) rfl rfl rfl rfl rfl rfl (g.rd kda) lx ly fun H' g' => hk H' g'
      have kD2 : Hb D2 = some (.lst ((((plF y c).filter (fitK L true m x y i)).map fun j => ((j : Nat) : Int)).map V.int)) := by rw [kD2, List.map_map]; rfl
      refine ⟨_, rfl, by show 0 ≤ sizeLine; decide, fun e ne => ?_⟩
      have ge : Grows Hb (upd Hb e (.lst [])) := Grows.new ne
      have ke : upd Hb e (.lst []) e = some (.lst []) := upd_same
      generalize upd Hb e (.lst []) = Hc at ge ke ⊢
      have g8c := ((g9.trans ga).trans gb).trans ge
      refine ⟨.list ((((plF y c).filter (fitK L true m x y i)).map fun j => ((j : Nat) : Int)).map PyData.int), .list [], .lst (.inl (.inl (ge _ _ kD2))) dp_ints, .lst (.inl (.inl ke)) .nil, shaped_ints _, rfl, _, rfl, ?_⟩
      rw [eqv_nil]
      by_cases hf : (plF y c).filter (fitK L true m x y i) = []
      · have eo : hasO L true m x y i c = false := by
          cases e : hasO L true m x y i c with
          | false => rfl
          | true =>
            unfold hasO at e
            obtain ⟨j, hj, hfj⟩ := List.any_eq_true.mp e
            have := List.filter_eq_nil_iff.mp hf j hj
            exact absurd hfj this
        have ek : hasK L true m x y = false := by
          cases e : hasK L true m x y with
          | false => rfl
          | true => rw [hasK_iff.mp e i c hc] at eo; cases eo
        refine if_pos_of (by rw [hf]; decide) ⟨(g7.trans g8c) _ _ kf, ?_⟩
        rw [bad (by show (hasK L true m x y && hasK L false m y x) = false; rw [ek]; rfl)] at q
        exact q _ (back Hc (g7.trans g8c))
      · refine if_neg_of (by rw [decide_eq_false (fun e => hf (List.map_eq_nil_iff.mp e))]; decide) ⟨⟨_, _, _, _, _, rfl⟩, g8c, fun i' c' hi' hc' => ?_⟩
        by_cases ei : i' = i
        · subst ei
          rw [hc] at hc'
          rw [← Option.some.inj hc']
          obtain ⟨j, hj⟩ := List.exists_mem_of_ne_nil _ hf
          obtain ⟨j1, j2⟩ := List.mem_filter.mp hj
          unfold hasO
          exact List.any_eq_true.mpr ⟨j, j1, j2⟩
        · exact old_true i' c' (by omega) hc'
    rintro σ H7h ⟨⟨w7, w12, w13, w14, w15, rfl⟩, g7h, all1⟩
    have k1 : hasK L true m x y = true := hasK_iff.mpr fun i c hc => all1 i c (by have := (List.getElem?_eq_some_iff.mp hc).1; show i < (sW x).cps.toList.length; rw [sW_cps]; exact this) hc
    have g7h := g7.trans g7h
    refine ⟨_, rfl, sW y, rfl, for_it walk_enumS (fun i σ H' => (∃ w7 w12 w13 w14 w15 : Option V, σ = [some (.str ls), some (.int ((n : Nat) : Int)), some (.str (sW u0)), some (.str (sW v0)), some (.ref a), w5, w6, w7, some (.ref Dk), some (.int ((m + 1 : Nat) : Int)), some (.str (sW x)), some (.str (sW y)), w12, w13, w14, w15]) ∧ Grows H7h H' ∧ ∀ i' c, i' < i → y[i']? = some c → hasO L false m y x i' c = true)
      ⟨⟨_, _, _, _, _, rfl⟩, Grows.refl H7h, fun i' c h => absurd h (Nat.not_lt_zero i')⟩ (fun _ _ _ _ _ => trivial) ?_ ?_⟩
    · rintro i z' σ H8 H8' hi ⟨⟨w7, w12, w13, w14, w15, rfl⟩, g8, old_false⟩ ⟨tp2, _, _, rfl, ntp2, rfl, e1, e2⟩
      have hi : i < y.length := by have : i < (sW y).cps.toList.length := hi; rw [sW_cps] at this; exact this
      obtain ⟨c, hc⟩ : ∃ c, y[i]? = some c := ⟨_, List.getElem?_eq_getElem hi⟩
      have e1' := (Option.some.inj e1).symm
      have e2 : (sW y).cps.toList[i]?.map (fun c => V.str { cps := #[c] }) = some _ := e2
      rw [sW_cps, hc] at e2
      have e2' := (Option.some.inj e2).symm
      subst e1' e2'
      have gt2 : Grows H8 (upd H8 tp2 (.tup [.int ((i : Nat) : Int), .str ⟨#[c]⟩])) := Grows.new ntp2
      refine ⟨tp2, _, rfl, .inl (.inl upd_same), rfl, _, _, rfl, _, _, rfl, rfl, ?_⟩
      generalize upd H8 tp2 (.tup [.int ((i : Nat) : Int), .str ⟨#[c]⟩]) = H9 at gt2 ⊢
      have g9 := g8.trans gt2
      have lpl : (plF x c).length ≤ 12 := Nat.le_trans (plTo_len _ _ _) lx
      -- the places
      refine ⟨_, rfl, sW x, rfl, fun D1 nD1 => ?_⟩
      refine lc_it walk_enumS (fun k H' => Grows H9 H' ∧ H' D1 = some (.lst (nums (plTo x c k)))) ⟨Grows.new nD1, upd_same⟩ (fun _ _ _ _ => trivial) ?_ ?_
      · rintro k z2 Ha Hb hk ⟨ga, kD⟩ ⟨tp3, _, _, rfl, ntp3, rfl, f1, f2⟩
        have hk : k < x.length := by have : k < (sW x).cps.toList.length := hk; rw [sW_cps] at this; exact this
        obtain ⟨d, hd⟩ : ∃ d, x[k]? = some d := ⟨_, List.getElem?_eq_getElem hk⟩
        have f1' := (Option.some.inj f1).symm
        have f2 : (sW x).cps.toList[k]?.map (fun c => V.str { cps := #[c] }) = some _ := f2
        rw [sW_cps, hd] at f2
        have f2' := (Option.some.inj f2).symm
        subst f1' f2'
        have gb : Grows Ha (upd Ha tp3 (.tup [.int ((k : Nat) : Int), .str ⟨#[d]⟩])) := Grows.new ntp3
        refine ⟨tp3, _, rfl, .inl (.inl upd_same), rfl, _, _, rfl, _, _, rfl, rfl, rfl, ?_⟩
        generalize upd Ha tp3 (.tup [.int ((k : Nat) : Int), .str ⟨#[d]⟩]) = Hb at gb ⊢
        refine ⟨_, rfl, _, rfl, rfl, _, rfl, ?_⟩
        have ed : decide (V.str { cps := #[d] } = V.str { cps := #[c] }) = decide (d = c) := by
          rw [Bool.eq_iff_iff, decide_eq_true_eq, decide_eq_true_eq]
          exact ⟨fun h => sg_inj (V.str.inj h), fun h => by rw [h]⟩
        rw [ed]
        have ps := plTo_succ (c := c) hd
        have pl := plTo_len x c k
        by_cases e : d = c
        · refine if_pos_of (decide_eq_true e) ⟨_, rfl, _, gb _ _ kD, by unfold nums; rw [List.length_map]; omega, fun b o eb => ?_, ?_⟩
          · rw [upd_ne (ne_of_none eb nD1)]
            exact gb _ _ (ga _ _ eb)
          · rw [upd_same, ps, if_pos e]
            unfold nums
            rw [List.map_append]
            rfl
        · refine if_neg_of (by rw [decide_eq_false e]; decide) ⟨ga.trans gb, ?_⟩
          rw [ps, if_neg e, List.append_nil]
          exact gb _ _ kD
      rintro Ha ⟨ga, kD1⟩
      have kD1 : Ha D1 = some (.lst (nums (plF x c))) := by
        have e : (sW x).cps.toList.length = x.length := by rw [sW_cps]
        rw [e] at kD1
        exact kD1
      have g6a := (g7h.trans g9).trans ga
      have kda : Rd Ha Dk (.dT (rowsT L (.bl true))) := .inr ⟨od, g6a _ _ kf⟩
      -- those that fit
      refine ⟨_, rfl, D1, rfl, ⟨_, .inl (.inl kD1)⟩, fun D2 nD2 => comp1 (i := 12) (te := tVar 12) (tt := ttFit) (I := plF x c) (gv := fun j => V.int ((j : Nat) : Int)) (walk_nums (K := K) (D := D1) (plF x c)) (fitK L false m y x i) (fun j => .int ((j : Nat) : Int)) nD2 (fun H' g => .inl (.inl (g _ _ kD1))) (by omega) (fun j H k hj g hk => ?_) (fun j H Q hj _ g hq => ⟨_, rfl, hq H (Grows.refl H)⟩) (fun Hb gb kD2 => ?_)⟩
      · exact fit_go (m := m) (i := j) (j := i) (u := x) (v := y) (D := Dk) (L := L) (y := .bl true) rfl rfl rfl rfl rfl rfl (g.rd kda) lx ly fun H' g' => hk H' g'
      have kD2 : Hb D2 = some (.lst ((((plF x c).filter (fitK L false m y x i)).map fun j => ((j : Nat) : Int)).map V.int)) := by rw [kD2, List.map_map]; rfl
      refine ⟨_, rfl, by show 0 ≤ sizeLine; decide, fun e ne => ?_⟩
      have ge : Grows Hb (upd Hb e (.lst [])) := Grows.new ne
      have ke : upd Hb e (.lst []) e = some (.lst []) := upd_same
      generalize upd Hb e (.lst []) = Hc at ge ke ⊢
      have g8c := ((g9.trans ga).trans gb).trans ge
      refine ⟨.list ((((plF x c).filter (fitK L false m y x i)).map fun j => ((j : Nat) : Int)).map PyData.int), .list [], .lst (.inl (.inl (ge _ _ kD2))) dp_ints, .lst (.inl (.inl ke)) .nil, shaped_ints _, rfl, _, rfl, ?_⟩
      rw [eqv_nil]
      by_cases hf : (plF x c).filter (fitK L false m y x i) = []
      · have eo : hasO L false m y x i c = false := by
          cases e : hasO L false m y x i c with
          | false => rfl
          | true =>
            unfold hasO at e
            obtain ⟨j, hj, hfj⟩ := List.any_eq_true.mp e
            have := List.filter_eq_nil_iff.mp hf j hj
            exact absurd hfj this
        have ek : hasK L false m y x = false := by
          cases e : hasK L false m y x with
          | false => rfl
          | true => rw [hasK_iff.mp e i c hc] at eo; cases eo
        refine if_pos_of (by rw [hf]; decide) ⟨(g7h.trans g8c) _ _ kf, ?_⟩
        rw [bad (by show (hasK L true m x y && hasK L false m y x) = false; rw [ek, Bool.and_false])] at q
        exact q _ (back Hc (g7h.trans g8c))
      · refine if_neg_of (by rw [decide_eq_false (fun e => hf (List.map_eq_nil_iff.mp e))]; decide) ⟨⟨_, _, _, _, _, rfl⟩, g8c, fun i' c' hi' hc' => ?_⟩
        by_cases ei : i' = i
        · subst ei
          rw [hc] at hc'
          rw [← Option.some.inj hc']
          obtain ⟨j, hj⟩ := List.exists_mem_of_ne_nil _ hf
          obtain ⟨j1, j2⟩ := List.mem_filter.mp hj
          unfold hasO
          exact List.any_eq_true.mpr ⟨j, j1, j2⟩
        · exact old_false i' c' (by omega) hc'
    rintro σ H7e ⟨⟨w7, w12, w13, w14, w15, rfl⟩, g7e, all2⟩
    have k2 : hasK L false m y x = true := hasK_iff.mpr fun i c hc => all2 i c (by have := (List.getElem?_eq_some_iff.mp hc).1; show i < (sW y).cps.toList.length; rw [sW_cps]; exact this) hc
    refine ⟨⟨_, _, _, _, _, _, _, _, rfl⟩, g7h.trans g7e, fun t ht' => ?_⟩
    rw [take_snoc ht] at ht'
    rcases List.mem_append.mp ht' with h | h
    · exact old t h
    · rw [List.mem_singleton.mp h]
      show (hasK L true m x y && hasK L false m y x) = true
      rw [k1, k2]
      rfl
end
end SWL
set_option Elab.async false
set_option linter.all false
set_option maxRecDepth 100000
set_option maxHeartbeats 8000000
namespace SWL
open PySem PySem.Spec PyProof.Rows L2 LamX
structure Off (H : Hp) (a g : Addr) : Prop where
  st : ∃ ks, H a = some (.dK ks)
  gr : ∃ xs, H g = some (.lst xs)
theorem SAt.off {H : Hp} {a g c : Addr} {cs : List Int} {n : Nat} (s : SAt H a g c cs n) : Off H a g := by
  obtain ⟨gs, r, t, h1, h2, _⟩ := s.ex
  exact ⟨⟨_, h1⟩, ⟨_, h2⟩⟩
/-- a word of these letters -/
def Of (ls z : Str) : Prop := ∀ d ∈ z.cps.toList, d ∈ ls.cps.toList
/-- so many signs drawn -/
def PickP (H1 : Hp) (a g c : Addr) (cs : List Int) (n : Nat) (ls : Str) (D : Addr) (j : Nat) (H' : Hp) : Prop := SAt H' a g c cs (n + j) ∧ But H1 H' a g ∧ ∃ ds : List Nat, ds.length = j ∧ (∀ d ∈ ds, d ∈ ls.cps.toList) ∧ H' D = some (.lst (ds.map fun d => V.str (sg d)))
theorem pick0 {H1 : Hp} {a g c D : Addr} {cs : List Int} {n : Nat} {ls : Str} (s : SAt H1 a g c cs n) (nD : H1 D = none) : PickP H1 a g c cs n ls D 0 (upd H1 D (.lst [])) :=
  ⟨s.grows (Grows.new nD), But.of (Grows.new nD), [], rfl, (fun d hd => by cases hd), upd_same⟩
theorem join_sg (ds : List Nat) : (Txt.join "" (ds.map sg)).cps.toList = ds := by
  rw [TL.join_eq]
  refine (TL.tl_join "" (ds.map sg)).trans ?_
  have e2 : ∀ l : List Nat, TL.joinL [] ((l.map sg).map TL.tl) = l := by
    intro l
    induction l with
    | nil => rfl
    | cons c l ih =>
      cases l with
      | nil => rfl
      | cons d l =>
        show [c] ++ ([] ++ TL.joinL [] (((d :: l).map sg).map TL.tl)) = _
        rw [ih]
        rfl
  exact e2 ds
theorem sum_sg (ds : List Nat) : ((ds.map sg).map (·.length)).sum = ds.length := by
  induction ds with
  | nil => rfl
  | cons d ds ih =>
    simp only [List.map_cons, List.sum_cons, List.length_cons] at ih ⊢
    have : (sg d).length = 1 := rfl
    omega
/-- what is joined of them -/
theorem pick_join {H' : Hp} {D : Addr} {ls : Str} {ds : List Nat} (hl : ds.length ≤ 1000) (hd : ∀ d ∈ ds, d ∈ ls.cps.toList) (hD : H' D = some (.lst (ds.map fun d => V.str (sg d)))) :
    H' D = some (.lst ((ds.map sg).map V.str)) ∧ ((ds.map sg).map (·.length)).sum + (ds.map sg).length * ("" : Str).length ≤ 16777216 ∧ Of ls (Txt.join "" (ds.map sg)) ∧ (Txt.join "" (ds.map sg)).length = ds.length := by
  have e0 : ("" : Str).length = 0 := rfl
  have ej := join_sg ds
  refine ⟨hD.trans ?_, ?_, ?_, ?_⟩
  · rw [List.map_map]
    rfl
  · rw [sum_sg, e0, Nat.mul_zero]
    omega
  · intro d h
    rw [ej] at h
    exact hd d h
  · rw [← cut_len, ej]
theorem app_len (a b : Str) : (a ++ b).length = a.length + b.length := by
  show (a.cps ++ b.cps).size = _
  rw [Array.size_append]
  rfl
theorem app_cps (a b : Str) : (a ++ b).cps.toList = a.cps.toList ++ b.cps.toList := by
  show (a.cps ++ b.cps).toList = _
  simp
theorem Of.app {ls a b : Str} (h : Of ls a) (k : Of ls b) : Of ls (a ++ b) := fun d hd => by
  rw [app_cps] at hd
  rcases List.mem_append.mp hd with z | z
  · exact h d z
  · exact k d z
theorem Of.mul {ls a : Str} (h : Of ls a) (n : Nat) : Of ls (Txt.mul a n) := fun d hd => by
  rw [mul_cps] at hd
  obtain ⟨l, hl1, hl2⟩ := List.mem_flatten.mp hd
  rw [(List.mem_replicate.mp hl1).2] at hl2
  exact h d hl2
theorem mul_len (a : Str) (n : Nat) : (Txt.mul a n).length = a.length * n := by
  rw [← cut_len, mul_cps, List.length_flatten, List.map_replicate, List.sum_replicate_nat, cut_len, Nat.mul_comm]
theorem Of.cutTo {ls a : Str} (h : Of ls a) (i : Nat) : Of ls (cutS a none (some ((i : Nat) : Int))) := fun d hd => by
  rw [cut_to] at hd
  exact h d (List.mem_of_mem_take hd)
theorem Of.cutFrom {ls a : Str} (h : Of ls a) (i : Nat) : Of ls (cutS a (some ((i : Nat) : Int)) none) := fun d hd => by
  rw [cut_from] at hd
  exact h d (List.mem_of_mem_drop hd)
theorem cut_to_len (a : Str) (i : Nat) : (cutS a none (some ((i : Nat) : Int))).length ≤ a.length := by
  rw [← cut_len, cut_to, List.length_take, cut_len]
  omega
theorem cut_from_len (a : Str) (i : Nat) : (cutS a (some ((i : Nat) : Int)) none).length ≤ a.length := by
  rw [← cut_len, cut_from, List.length_drop, cut_len]
  omega
theorem Of.sg {ls : Str} {d : Nat} (h : d ∈ ls.cps.toList) : Of ls (sg d) := fun e he => by
  rw [List.mem_singleton.mp he]
  exact h
/-- an odd value -/
def Odd (H : Hp) (ls : Str) (x : V) : Prop := x = .non ∨ x = .int 5 ∨ (∃ t, x = .ref t ∧ H t = some (.tup [.str "a"])) ∨ (∃ t, x = .ref t ∧ H t = some (.lst [.str "a"])) ∨ x = .str "A" ∨ x = .str "a b" ∨ x = .str (ls ++ "q") ∨ x = .bl true
def spOdd : Sp := fun vs H Q _ => ∃ (a g c : Addr) (cs : List Int) (n : Nat) (ls : Str), vs = [.ref a, .str ls] ∧ ls.length ≤ 1000 ∧ SAt H a g c cs n ∧ n ≤ 1000000 ∧ ∀ H' x, Odd H' ls x → (∀ r, x = .ref r → r ≠ g) → SAt H' a g c cs (n + 1) → But H H' a g → Q x H'
section
variable {P : Program} {w : World} {K : PySem.W.Frag} {mg : Str → Option Value} {base : Heap}
theorem scOdd : FnScope ["state", "letters"] ["state", "letters"] (defScope sOdd) := ⟨rfl, rfl, rfl, by decide +kernel, rfl, by decide +kernel, by decide +kernel⟩
theorem ok_odd {f f1 : Addr} {fd fd1 : FuncData} (F : L2.Fun K "_law_mo_odd_word" "_law_mo_odd_word" sOdd f fd) (G : FnOk P w K mg base CX0 3 f1 fd1 ["state", "some"] spPick) (D : Def mg K "_law_pick" f1 fd1 ["state", "some"]) : FnOk P w K mg base CX0 4 f fd ["state", "letters"] spOdd := by
  refine F.ok scOdd (fun vs H Q E h => ?_) (fun cdv A outer s H vs Q E hr h => ⟨_,
    pss_one (ps_ret (pe_call G hr (by rfl) D.g D.k D.b .nil pass0 (pa_cons (pv 0) (pa_cons (pe_lst (pa_cons pe_non (pa_cons pe_int (pa_cons (pe_tup (pa_cons pe_str pa_nil)) (pa_cons (pe_lst (pa_cons pe_str pa_nil)) (pa_cons pe_str (pa_cons pe_str (pa_cons (pe_op op_add_str (pv 1) pe_str) (pa_cons pe_bl pa_nil))))))))) pa_nil)))), ?_⟩)
  · obtain ⟨a, g, c, cs, n, ls, rfl, _⟩ := h
    rfl
  · obtain ⟨a, g, c, cs, n, ls, rfl, hls, hs, hn, q⟩ := h
    refine ⟨_, rfl, by show 1 ≤ sizeLine; decide, fun t nt => ?_⟩
    have g1 : Grows H (upd H t (.tup [.str "a"])) := Grows.new nt
    have kt : upd H t (.tup [.str "a"]) t = some (.tup [.str "a"]) := upd_same
    generalize upd H t (.tup [.str "a"]) = H1 at g1 kt ⊢
    refine ⟨by show 1 ≤ sizeLine; decide, fun l nl => ?_⟩
    have g2 : Grows H1 (upd H1 l (.lst [.str "a"])) := Grows.new nl
    have kl : upd H1 l (.lst [.str "a"]) l = some (.lst [.str "a"]) := upd_same
    generalize upd H1 l (.lst [.str "a"]) = H2 at g2 kl ⊢
    refine ⟨_, rfl, ls, "q", rfl, rfl, (by show ls.length + 1 ≤ sizeLine; have : sizeLine = 16777216 := sizeLine_eq; omega), by show 8 ≤ sizeLine; decide, fun p np => ?_⟩
    have g3 := Grows.new (o := .lst [.non, .int 5, .ref t, .ref l, .str "A", .str "a b", .str (ls ++ "q"), .bl true]) np
    have g12 := (g1.trans g2).trans g3
    have hs2 := hs.grows g12
    obtain ⟨gs, r, tt, h1, h2, h3, h4⟩ := (hs.grows (g1.trans g2)).ex
    obtain ⟨_, _, _, h1', h2', _⟩ := hs.ex
    have pg : p ≠ g := (ne_of_none h2 np).symm
    have ta : t ≠ a := (ne_of_none h1' nt).symm
    have tg : t ≠ g := (ne_of_none h2' nt).symm
    have la : l ≠ a := (ne_of_none (g1 _ _ h1') nl).symm
    have lg : l ≠ g := (ne_of_none (g1 _ _ h2') nl).symm
    refine ⟨a, g, c, p, cs, n, _, rfl, hs2, hn, upd_same, pg, by simp, by show 8 ≤ 1000000; decide, fun H' x hx s' hb => q H' x ?_ (fun r er => by simp only [List.mem_cons, List.not_mem_nil, or_false] at hx; rcases hx with e | e | e | e | e | e | e | e <;> rw [e] at er <;> first | (cases er; assumption) | cases er) s' ((But.of g12).trans hb)⟩
    simp only [List.mem_cons, List.not_mem_nil, or_false] at hx
    rcases hx with e | e | e | e | e | e | e | e
    · exact .inl e
    · exact .inr (.inl e)
    · exact .inr (.inr (.inl ⟨t, e, hb t _ (g3 _ _ (g2 _ _ kt)) ta tg⟩))
    · exact .inr (.inr (.inr (.inl ⟨l, e, hb l _ (g3 _ _ kl) la lg⟩)))
    · exact .inr (.inr (.inr (.inr (.inl e))))
    · exact .inr (.inr (.inr (.inr (.inr (.inl e)))))
    · exact .inr (.inr (.inr (.inr (.inr (.inr (.inl e))))))
    · exact .inr (.inr (.inr (.inr (.inr (.inr (.inr e))))))
end
theorem rev_len (z : Str) : (revS z).length = z.length := by
  rw [← cut_len, ← cut_len]
  exact List.length_reverse
theorem Of.rev {ls z : Str} (h : Of ls z) : Of ls (revS z) := fun c hc => h c (List.mem_reverse.mp hc)
/-- one sign more, of list(letters) -/
theorem pickL {H1 H2 : Hp} {a g c D : Addr} {cs : List Int} {n j js jt : Nat} {ls : Str} {σ : L2.St} (s1 : SAt H1 a g c cs n) (nD : H1 D = none) (p : PickP H1 a g c cs n ls D j H2) (hs : σ[js]? = some (some (.ref a))) (ht : σ[jt]? = some (some (.str ls))) (hp : 0 < ls.length) (hl : ls.length ≤ 1000) (hn : n + j ≤ 1000000) (hj : j ≤ 1000) :
    tCall spPick [] E0 (tCons (tVar js) (tCons (tCB (fun xs H Q => ∃ z, xs = [.str z] ∧ z.length ≤ sizeLine ∧ ∀ p, H p = none → Q (.ref p) (upd H p (.lst (signsV z)))) (tCons (tVar jt) tNil)) tNil)) σ H2 fun y H4 => ∃ acc, H4 D = some (.lst acc) ∧ acc.length < sizeLine ∧ PickP H1 a g c cs n ls D (j + 1) (upd H4 D (.lst (acc ++ [y]))) := by
  have sz : sizeLine = 16777216 := sizeLine_eq
  obtain ⟨s2, b2, ds, hdl, hds, hD⟩ := p
  have dG : D ≠ g := by
    obtain ⟨xs, hx⟩ := s1.off.gr
    exact (ne_of_none hx nD).symm
  have dA : D ≠ a := by
    obtain ⟨xs, hx⟩ := s1.off.st
    exact (ne_of_none hx nD).symm
  have dC : D ≠ c := by
    obtain ⟨_, _, _, _, _, h3, _⟩ := s1.ex
    exact (ne_of_none h3 nD).symm
  refine ⟨_, hs, _, ht, ls, rfl, by omega, fun q nq => ?_⟩
  have g3 : Grows H2 (upd H2 q (.lst (signsV ls))) := Grows.new nq
  have qg : q ≠ g := by
    obtain ⟨xs, hx⟩ := s2.off.gr
    exact (ne_of_none hx nq).symm
  refine ⟨a, g, c, q, cs, n + j, signsV ls, rfl, s2.grows g3, hn, upd_same, qg, (fun z => by rw [← List.length_eq_zero_iff, signs_len] at z; omega), by rw [signs_len]; omega, fun H4 y hy s4 b4 => ?_⟩
  obtain ⟨d, hd, rfl⟩ := signs_mem hy
  have hD4 := b4 D _ (g3 _ _ hD) dA dG
  refine ⟨_, hD4, by rw [List.length_map]; omega, ?_, ?_, ds ++ [d], by rw [List.length_append, hdl]; rfl, fun e he => ?_, ?_⟩
  · obtain ⟨gs, r, t, h1, h2, h3, h4⟩ := s4.ex
    exact ⟨gs, r, t, by rw [upd_ne dA.symm]; exact h1, by rw [upd_ne dG.symm]; exact h2, by rw [upd_ne dC.symm]; exact h3, h4⟩
  · intro b o e n1 n2
    rw [upd_ne (ne_of_none e nD)]
    exact b4 b o (g3 _ _ (b2 b o e n1 n2)) n1 n2
  · rcases List.mem_append.mp he with h | h
    · exact hds e h
    · rw [List.mem_singleton.mp h]
      exact hd
  · rw [upd_same, List.map_append]
    rfl
def lettersL : List Str := ["ab", "ab", "xy", "a", "abc"]
def lotOk (ls : Str) : Bool := okLetters ls && decide (ls.length ≤ 3) && decide (0 < ls.length) && ls.cps.toList.all (fun c => decide (c < 128)) && !decide (113 ∈ ls.cps.toList) && !decide (65 ∈ ls.cps.toList) && !decide (32 ∈ ls.cps.toList)
theorem lots_ok : lettersL.all lotOk = true := by decide +kernel
structure Lot (ls : Str) : Prop where
  ok : okLetters ls = true
  len : ls.length ≤ 3
  pos : 0 < ls.length
  small : ∀ c ∈ ls.cps.toList, c < 128
  q : 113 ∉ ls.cps.toList
  A : 65 ∉ ls.cps.toList
  sp : 32 ∉ ls.cps.toList
theorem lot_of {ls : Str} (h : ls ∈ lettersL) : Lot ls := by
  have e := List.all_eq_true.mp lots_ok ls h
  unfold lotOk at e
  simp only [Bool.and_eq_true, decide_eq_true_eq, Bool.not_eq_true', decide_eq_false_iff_not, List.all_eq_true] at e
  obtain ⟨⟨⟨⟨⟨⟨e1, e2⟩, e3⟩, e4⟩, e5⟩, e6⟩, e7⟩ := e
  exact ⟨e1, e2, e3, e4, e5, e6, e7⟩
theorem cut_mem (z : Str) (lo hi : Option Int) : ∀ d ∈ (cutS z lo hi).cps.toList, d ∈ z.cps.toList := fun d hd => by
  unfold cutS at hd
  exact List.mem_of_mem_drop (List.mem_of_mem_take (by simpa using hd))
theorem cut_len_le (z : Str) (lo hi : Option Int) : (cutS z lo hi).length ≤ z.length := by
  rw [← cut_len, ← cut_len]
  unfold cutS
  show ((z.cps.toList.drop _).take _).length ≤ _
  rw [List.length_take, List.length_drop]
  omega
theorem cut_most (z : Str) (m : Nat) : (cutS z none (some ((m : Nat) : Int))).length ≤ m := by
  rw [← cut_len, cut_to, List.length_take]
  omega
theorem Of.cut {ls z : Str} (h : Of ls z) (lo hi : Option Int) : Of ls (cutS z lo hi) := fun d hd => h d (cut_mem z lo hi d hd)
def spTyPair : Sp := fun vs H Q _ => ∃ (a g c : Addr) (cs : List Int) (n m : Nat) (ls : Str), vs = [.ref a, .str ls, .int ((m : Nat) : Int)] ∧ 0 < ls.length ∧ ls.length ≤ 10 ∧ m ≤ 40 ∧ SAt H a g c cs n ∧ n + 300 ≤ 1000000 ∧
  ∀ H' t u v, Of ls u → Of ls v → u.length ≤ m → v.length ≤ m → H' t = some (.tup [.str u, .str v]) → SAt H' a g c cs (n + 300) → But H H' a g → Q (.ref t) H'
abbrev NT : List Str := ["state", "letters", "most", "one", "part", "at", "way", "letter", "spot"]
section
variable {P : Program} {w : World} {K : PySem.W.Frag} {mg : Str → Option Value} {base : Heap}
theorem scTyPair : FnScope NT ["state", "letters", "most"] (defScope sTyPair) := ⟨rfl, rfl, rfl, by decide +kernel, rfl, by decide +kernel, by decide +kernel⟩
theorem ok_tyPair {f f1 f2 : Addr} {fd fd1 fd2 : FuncData} (F : L2.Fun K "_law_ty_pair" "_law_ty_pair" sTyPair f fd) (B : Blt mg)
    (G1 : FnOk P w K mg base CX0 2 f1 fd1 ["state", "room"] spDraw) (D1 : Def mg K "_law_draw" f1 fd1 ["state", "room"])
    (G2 : FnOk P w K mg base CX0 3 f2 fd2 ["state", "some"] spPick) (D2 : Def mg K "_law_pick" f2 fd2 ["state", "some"]) : FnOk P w K mg base CX0 4 f fd ["state", "letters", "most"] spTyPair := by
  refine F.ok scTyPair (fun vs H Q E h => ?_) (fun cdv A outer s H vs Q E hr h => ⟨_,
    pss_cons (ps_set (i := 3) scTyPair.nd rfl (Or.inl rfl) (pe_join pe_str (pe_lc (own := [("at", 5)]) (g := gName 5) (tt := tYes) (te := tCall spPick [] E0 (tCons (tVar 0) (tCons (tCB (fun xs H Q => ∃ z, xs = [.str z] ∧ z.length ≤ sizeLine ∧ ∀ p, H p = none → Q (.ref p) (upd H p (.lst (signsV z)))) (tCons (tVar 1) tNil)) tNil))) rfl scTyPair.nd (pi_range1 (by rfl) B.range (pa_cons (pe_call G1 (hr.mono (by decide)) (by rfl) D1.g D1.k D1.b .nil pass0 (pa_cons (pv 0) (pa_cons (pe_op op_add (pv 2) pe_int) pa_nil))) pa_nil)) (blkOk_by (N := NT) (sc := defScope sTyPair) (by decide +kernel))
        (fun _ _ _ _ _ => pg_name (i := 5) scTyPair.nd rfl (Or.inl rfl)) (fun _ _ _ _ _ => pts_nil) (fun _ _ _ _ _ => pe_call G2 hr (by rfl) D2.g D2.k D2.b .nil pass0 (pa_cons (pv 0) (pa_cons (pe_callTy (cr_listStr rfl) (by rfl) B.list (by decide +kernel) (pa_cons (pv 1) pa_nil)) pa_nil))))))
    (pss_cons (ps_if (pt_cmpR op_eq (pe_call G1 (hr.mono (by decide)) (by rfl) D1.g D1.k D1.b .nil pass0 (pa_cons (pv 0) (pa_cons pe_int pa_nil))) pe_int (nomark _))
      (pss_cons (ps_set (i := 4) scTyPair.nd rfl (Or.inl rfl) (pe_join pe_str (pe_lc (own := [("at", 5)]) (g := gName 5) (tt := tYes) (te := tCall spPick [] E0 (tCons (tVar 0) (tCons (tCB (fun xs H Q => ∃ z, xs = [.str z] ∧ z.length ≤ sizeLine ∧ ∀ p, H p = none → Q (.ref p) (upd H p (.lst (signsV z)))) (tCons (tVar 1) tNil)) tNil))) rfl scTyPair.nd (pi_range1 (by rfl) B.range (pa_cons (pe_op op_add pe_int (pe_call G1 (hr.mono (by decide)) (by rfl) D1.g D1.k D1.b .nil pass0 (pa_cons (pv 0) (pa_cons pe_int pa_nil)))) pa_nil)) (blkOk_by (N := NT) (sc := defScope sTyPair) (by decide +kernel))
        (fun _ _ _ _ _ => pg_name (i := 5) scTyPair.nd rfl (Or.inl rfl)) (fun _ _ _ _ _ => pts_nil) (fun _ _ _ _ _ => pe_call G2 hr (by rfl) D2.g D2.k D2.b .nil pass0 (pa_cons (pv 0) (pa_cons (pe_callTy (cr_listStr rfl) (by rfl) B.list (by decide +kernel) (pa_cons (pv 1) pa_nil)) pa_nil))))))
      (pss_one (ps_set (i := 3) scTyPair.nd rfl (Or.inl rfl) (pe_slice sl_str (pe_op op_mulS (pv 4) (pv 2)) po_none (po_some (pe_call G1 (hr.mono (by decide)) (by rfl) D1.g D1.k D1.b .nil pass0 (pa_cons (pv 0) (pa_cons (pe_op op_add (pv 2) pe_int) pa_nil)))))))) pss_nil)
    (pss_cons (ps_par (i := 5) (j := 6) rfl scTyPair.nd rfl rfl (by decide) rfl rfl (pa_cons (pe_call G1 (hr.mono (by decide)) (by rfl) D1.g D1.k D1.b .nil pass0 (pa_cons (pv 0) (pa_cons (pe_op op_add (pe_callB call_len_str (by rfl) B.len PySem.boot_len (pa_cons (pv 3) pa_nil)) pe_int) pa_nil))) (pa_cons (pe_call G1 (hr.mono (by decide)) (by rfl) D1.g D1.k D1.b .nil pass0 (pa_cons (pv 0) (pa_cons pe_int pa_nil))) pa_nil)) rfl)
    (pss_cons (ps_set (i := 7) scTyPair.nd rfl (Or.inl rfl) (pe_call G2 hr (by rfl) D2.g D2.k D2.b .nil pass0 (pa_cons (pv 0) (pa_cons (pe_callTy (cr_listStr rfl) (by rfl) B.list (by decide +kernel) (pa_cons (pv 1) pa_nil)) pa_nil))))
    (pss_cons (ps_if (pt_cmpR op_eq (pv 6) pe_int (nomark _)) (pss_one (ps_ret (pe_tup (pa_cons (pv 3) (pa_cons
        (pe_join pe_str (pe_lc (own := [("spot", 8)]) (g := gName 8) (tt := tYes) (te := tCall spPick [] E0 (tCons (tVar 0) (tCons (tCB (fun xs H Q => ∃ z, xs = [.str z] ∧ z.length ≤ sizeLine ∧ ∀ p, H p = none → Q (.ref p) (upd H p (.lst (signsV z)))) (tCons (tVar 1) tNil)) tNil))) rfl scTyPair.nd (pi_range1 (by rfl) B.range (pa_cons (pe_call G1 (hr.mono (by decide)) (by rfl) D1.g D1.k D1.b .nil pass0 (pa_cons (pv 0) (pa_cons (pe_op op_add (pv 2) pe_int) pa_nil))) pa_nil)) (blkOk_by (N := NT) (sc := defScope sTyPair) (by decide +kernel))
        (fun _ _ _ _ _ => pg_name (i := 8) scTyPair.nd rfl (Or.inl rfl)) (fun _ _ _ _ _ => pts_nil) (fun _ _ _ _ _ => pe_call G2 hr (by rfl) D2.g D2.k D2.b .nil pass0 (pa_cons (pv 0) (pa_cons (pe_callTy (cr_listStr rfl) (by rfl) B.list (by decide +kernel) (pa_cons (pv 1) pa_nil)) pa_nil))))) pa_nil))))) pss_nil)
    (pss_cons (ps_if (pt_cmpR op_eq (pv 6) pe_int (nomark _)) (pss_one (ps_ret (pe_tup (pa_cons (pv 3) (pa_cons (pe_op op_add_str (pe_slice sl_str (pv 3) po_none (po_some (pv 5))) (pe_slice sl_str (pv 3) (po_some (pe_op op_add (pv 5) pe_int)) po_none)) pa_nil))))) pss_nil)
    (pss_cons (ps_if (pt_cmpR op_eq (pv 6) pe_int (nomark _)) (pss_one (ps_ret (pe_tup (pa_cons (pv 3) (pa_cons (pe_slice sl_str (pe_op op_add_str (pe_op op_add_str (pe_slice sl_str (pv 3) po_none (po_some (pv 5))) (pv 7)) (pe_slice sl_str (pv 3) (po_some (pe_op op_add (pv 5) pe_int)) po_none)) po_none (po_some (pv 2))) pa_nil))))) pss_nil)
    (pss_cons (ps_if (pt_cmpR op_eq (pv 6) pe_int (nomark _)) (pss_one (ps_ret (pe_tup (pa_cons (pv 3) (pa_cons (pe_slice sl_str (pe_op op_add_str (pe_op op_add_str (pe_slice sl_str (pv 3) po_none (po_some (pv 5))) (pe_slice sl_str (pv 3) (po_some (pe_callB (call_max2 rfl) (by rfl) B.max (by decide +kernel) (pa_cons pe_int (pa_cons (pe_op op_sub (pv 5) pe_int) pa_nil)))) (po_some (pv 5)))) (pe_slice sl_str (pv 3) (po_some (pv 5)) po_none)) po_none (po_some (pv 2))) pa_nil))))) pss_nil)
    (pss_cons (ps_if (pt_cmpR op_eq (pv 6) pe_int (nomark _)) (pss_one (ps_ret (pe_tup (pa_cons (pv 3) (pa_cons (pe_revS (pv 3)) pa_nil))))) pss_nil)
    (pss_one (ps_ret (pe_tup (pa_cons (pv 3) (pa_cons (pe_slice sl_str (pe_op op_add_str (pe_op op_add_str (pe_slice sl_str (pv 3) po_none (po_some (pv 5))) (pv 7)) (pe_slice sl_str (pv 3) (po_some (pv 5)) po_none)) po_none (po_some (pv 2))) pa_nil))))))))))))), ?_⟩)
  · obtain ⟨a, g, c, cs, n, m, ls, rfl, _⟩ := h
    rfl
  · obtain ⟨a, g, c, cs, n, m, ls, rfl, hp, hl, hm, hs, hn, q⟩ := h
    have sz : sizeLine = 16777216 := sizeLine_eq
    refine ⟨⟨_, rfl⟩, _, rfl, _, rfl, _, _, rfl, rfl, a, g, c, cs, n, _, rfl, hs, by omega, by omega, by omega, fun H1 k k0 k1 s1 b1 => ⟨_, rfl, by omega, by omega, fun D nD => ?_⟩⟩
    refine lc_it walk_range (PickP H1 a g c cs (n + 1) ls D) (pick0 s1 nD) (fun _ _ _ _ => trivial) ?_ ?_
    · rintro j x H2 H3 hj p ⟨rfl, rfl⟩
      refine ⟨rfl, ?_⟩
      exact pickL (js := 0) (jt := 1) s1 nD p rfl rfl hp (by omega) (by omega) (by omega)
    · rintro H2 ⟨s2, b2, ds, hdl, hds, hD⟩
      obtain ⟨e1, e2, hz, hzl⟩ := pick_join (by omega) hds hD
      refine ⟨"", D, ds.map sg, rfl, rfl, .inl (.inl (.inl e1)), e2, ?_⟩
      generalize Txt.join "" (ds.map sg) = one at hz hzl ⊢
      have l1 : one.length ≤ m := by omega
      have S2 : SAt H2 a g c cs (n + 50) := s2.mono (by omega)
      have B2 : But H H2 a g := b1.trans b2
      clear s2 b2 s1 b1 e1 e2 hD nD hzl hdl hds
      dsimp only [gName, tSeq]
      refine (?_ : tIfS _ _ _ { nx := ?N, rt := _ } _ _)
      have rest : ∀ (v4 v5 : Option V) (one : Str) (H3 : Hp), Of ls one → one.length ≤ m → SAt H3 a g c cs (n + 110) → But H H3 a g → ?N [some (.ref a), some (.str ls), some (.int ((m : Nat) : Int)), some (.str one), v4, v5, none, none, none] H3 := fun v4 v5 one H3 hz l1 S3 B3 => ?_
      rotate_left
      · refine ⟨_, rfl, _, rfl, one, rfl, by omega, _, _, rfl, rfl, a, g, c, cs, n + 110, _, rfl, S3, by omega, by omega, by omega, fun H4 at_ a0 a1 s4 b4 => ⟨_, rfl, a, g, c, cs, n + 111, 6, rfl, s4, by omega, by decide, by decide, fun H5 way w0 w1 s5 b5 => ⟨_, _, rfl, ?_⟩⟩⟩
        obtain ⟨k, rfl⟩ : ∃ k : Nat, at_ = k := ⟨at_.toNat, by omega⟩
        refine ⟨_, rfl, _, rfl, ls, rfl, by omega, fun p np => ?_⟩
        have gp : Grows H5 (upd H5 p (.lst (signsV ls))) := Grows.new np
        have pg : p ≠ g := by
          obtain ⟨xs, hx⟩ := s5.off.gr
          exact (ne_of_none hx np).symm
        refine ⟨a, g, c, p, cs, n + 112, signsV ls, rfl, s5.grows gp, by omega, upd_same, pg, (fun z => by rw [← List.length_eq_zero_iff, signs_len] at z; omega), by rw [signs_len]; omega, fun H7 y hy s7 b7 => ?_⟩
        obtain ⟨d, hd, rfl⟩ := signs_mem hy
        have B7 : But H H7 a g := ((((B3.trans b4).trans b5)).trans (But.of gp)).trans b7
        have zd : Of ls (sg d) := Of.sg hd
        have dl : (sg d).length = 1 := rfl
        change ∃ x, _
        have c1 := cut_to_len one k
        have c2 := cut_from_len one k
        have c3 := cut_from_len one (k + 1)
        refine ⟨_, rfl, rfl, _, rfl, ?_⟩
        by_cases h0 : way = 0
        · refine if_pos_of (decide_eq_true (congrArg V.int h0)) ?_
          refine ⟨_, rfl, ⟨_, rfl⟩, _, rfl, _, rfl, _, _, rfl, rfl, a, g, c, cs, n + 112 + 1, _, rfl, s7, by omega, by omega, by omega, fun H8 k2 k20 k21 s8 b8 => ⟨_, rfl, by omega, by omega, fun D nD => ?_⟩⟩
          refine lc_it walk_range (PickP H8 a g c cs (n + 114) ls D) (pick0 s8 nD) (fun _ _ _ _ => trivial) ?_ ?_
          · rintro j x H9 H10 hj p ⟨rfl, rfl⟩
            refine ⟨rfl, ?_⟩
            exact pickL (js := 0) (jt := 1) s8 nD p rfl rfl hp (by omega) (by omega) (by omega)
          · rintro H9 ⟨s9, b9, ds, hdl, hds, hD⟩
            obtain ⟨e1, e2, hz2, hzl2⟩ := pick_join (by omega) hds hD
            refine ⟨"", D, ds.map sg, rfl, rfl, .inl (.inl (.inl e1)), e2, by show 2 ≤ sizeLine; omega, fun t nt => ?_⟩
            exact q _ t one _ hz hz2 l1 (by omega) upd_same ((s9.grows (Grows.new nt)).mono (by omega)) (((B7.trans b8).trans b9).trans (But.of (Grows.new nt)))
        refine if_neg_of (by rw [decide_eq_false (fun e => h0 (V.int.inj e))]; decide) ?_
        refine ⟨_, rfl, rfl, _, rfl, ?_⟩
        by_cases h1 : way = 1
        · refine if_pos_of (decide_eq_true (congrArg V.int h1)) ?_
          have e1 := app_len (cutS one none (some ((k : Nat) : Int))) (cutS one (some ((k + 1 : Nat) : Int)) none)
          have e2 : (cutS one none (some ((k : Nat) : Int)) ++ cutS one (some ((k + 1 : Nat) : Int)) none).length ≤ one.length := by
            rw [e1, ← cut_len, ← cut_len, cut_to, cut_from, List.length_take, List.length_drop, ← cut_len]
            omega
          refine ⟨_, rfl, _, rfl, _, rfl, _, rfl, one, rfl, by omega, _, rfl, _, rfl, _, _, rfl, rfl, _, rfl, ?_⟩
          dsimp only [tNoPart]
          refine ⟨_, rfl, by omega, _, _, rfl, rfl, (by have c4 : (cutS one (some (((k : Nat) : Int) + 1)) none).length ≤ one.length := c3; omega), by show 2 ≤ sizeLine; omega, fun t nt => ?_⟩
          exact q _ t one _ hz ((hz.cutTo k).app (hz.cutFrom (k + 1))) l1 (Nat.le_trans e2 l1) upd_same ((s7.grows (Grows.new nt)).mono (by omega)) (B7.trans (But.of (Grows.new nt)))
        refine if_neg_of (by rw [decide_eq_false (fun e => h1 (V.int.inj e))]; decide) ?_
        refine ⟨_, rfl, rfl, _, rfl, ?_⟩
        by_cases h2 : way = 2
        · refine if_pos_of (decide_eq_true (congrArg V.int h2)) ?_
          have e1 := app_len (cutS one none (some ((k : Nat) : Int))) (sg d)
          have e2 := app_len (cutS one none (some ((k : Nat) : Int)) ++ sg d) (cutS one (some ((k + 1 : Nat) : Int)) none)
          refine ⟨_, rfl, _, rfl, _, rfl, _, rfl, one, rfl, by omega, _, rfl, _, sg d, rfl, rfl, by omega, _, rfl, _, rfl, _, _, rfl, rfl, _, rfl, ?_⟩
          dsimp only [tNoPart]
          refine ⟨one, rfl, by omega, _, _, rfl, rfl, (by have c4 : (cutS one (some (((k : Nat) : Int) + 1)) none).length ≤ one.length := c3; omega), _, rfl, _, rfl, _, rfl, (by have c4 : (cutS one none (some ((k : Nat) : Int)) ++ sg d ++ cutS one (some (((k : Nat) : Int) + 1)) none).length = _ := e2; omega), by show 2 ≤ sizeLine; omega, fun t nt => ?_⟩
          exact q _ t one _ hz ((((hz.cutTo k).app zd).app (hz.cutFrom (k + 1))).cut _ _) l1 (cut_most _ m) upd_same ((s7.grows (Grows.new nt)).mono (by omega)) (B7.trans (But.of (Grows.new nt)))
        refine if_neg_of (by rw [decide_eq_false (fun e => h2 (V.int.inj e))]; decide) ?_
        refine ⟨_, rfl, rfl, _, rfl, ?_⟩
        by_cases h3 : way = 3
        · refine if_pos_of (decide_eq_true (congrArg V.int h3)) ?_
          refine ⟨_, rfl, _, rfl, _, rfl, _, rfl, one, rfl, by omega, _, rfl, _, rfl, _, _, rfl, rfl, _, _, rfl, _, rfl, _, rfl, _, rfl, one, rfl, by omega, ?_⟩
          generalize (some (if ((k : Nat) : Int) - 3 > 0 then ((k : Nat) : Int) - 3 else 0)) = lo
          have c5 := cut_len_le one lo (some ((k : Nat) : Int))
          have e1 := app_len (cutS one none (some ((k : Nat) : Int))) (cutS one lo (some ((k : Nat) : Int)))
          have e2 := app_len (cutS one none (some ((k : Nat) : Int)) ++ cutS one lo (some ((k : Nat) : Int))) (cutS one (some ((k : Nat) : Int)) none)
          refine ⟨_, _, rfl, rfl, by omega, _, rfl, _, rfl, _, rfl, ?_⟩
          dsimp only [tNoPart]
          refine ⟨one, rfl, by omega, _, _, rfl, rfl, by omega, _, rfl, _, rfl, _, rfl, by omega, by show 2 ≤ sizeLine; omega, fun t nt => ?_⟩
          exact q _ t one _ hz ((((hz.cutTo k).app (hz.cut _ _)).app (hz.cutFrom k)).cut _ _) l1 (cut_most _ m) upd_same ((s7.grows (Grows.new nt)).mono (by omega)) (B7.trans (But.of (Grows.new nt)))
        refine if_neg_of (by rw [decide_eq_false (fun e => h3 (V.int.inj e))]; decide) ?_
        refine ⟨_, rfl, rfl, _, rfl, ?_⟩
        by_cases h4 : way = 4
        · refine if_pos_of (decide_eq_true (congrArg V.int h4)) ?_
          refine ⟨_, rfl, _, rfl, one, rfl, by omega, by show 2 ≤ sizeLine; omega, fun t nt => ?_⟩
          exact q _ t one _ hz hz.rev l1 (by rw [rev_len]; exact l1) upd_same ((s7.grows (Grows.new nt)).mono (by omega)) (B7.trans (But.of (Grows.new nt)))
        refine if_neg_of (by rw [decide_eq_false (fun e => h4 (V.int.inj e))]; decide) ?_
        have e1 := app_len (cutS one none (some ((k : Nat) : Int))) (sg d)
        have e2 := app_len (cutS one none (some ((k : Nat) : Int)) ++ sg d) (cutS one (some ((k : Nat) : Int)) none)
        refine ⟨_, rfl, _, rfl, _, rfl, _, rfl, one, rfl, by omega, _, rfl, _, sg d, rfl, rfl, by omega, _, rfl, _, rfl, _, rfl, ?_⟩
        dsimp only [tNoPart]
        refine ⟨one, rfl, by omega, _, _, rfl, rfl, by omega, _, rfl, _, rfl, _, rfl, by omega, by show 2 ≤ sizeLine; omega, fun t nt => ?_⟩
        exact q _ t one _ hz ((((hz.cutTo k).app zd).app (hz.cutFrom k)).cut _ _) l1 (cut_most _ m) upd_same ((s7.grows (Grows.new nt)).mono (by omega)) (B7.trans (But.of (Grows.new nt)))
      · refine ⟨_, rfl, a, g, c, cs, n + 50, 2, rfl, S2, by omega, by decide, by decide, fun H3 k k0 k1 s3 b3 => ⟨rfl, _, rfl, ?_⟩⟩
        by_cases hk : k = 0
        · refine if_pos_of (decide_eq_true (congrArg V.int hk)) ?_
          refine ⟨⟨_, rfl⟩, _, rfl, a, g, c, cs, n + 51, 3, rfl, s3, by omega, by decide, by decide, fun H4 k2 k20 k21 s4 b4 => ⟨_, _, rfl, rfl, _, rfl, by omega, by omega, fun D nD => ?_⟩⟩
          refine lc_it walk_range (PickP H4 a g c cs (n + 52) ls D) (pick0 s4 nD) (fun _ _ _ _ => trivial) ?_ ?_
          · rintro j x H5 H6 hj p ⟨rfl, rfl⟩
            refine ⟨rfl, ?_⟩
            exact pickL (js := 0) (jt := 1) s4 nD p rfl rfl hp (by omega) (by omega) (by omega)
          · rintro H5 ⟨s5, b5, ds, hdl, hds, hD⟩
            obtain ⟨e1, e2, hz2, hzl2⟩ := pick_join (by omega) hds hD
            refine ⟨"", D, ds.map sg, rfl, rfl, .inl (.inl (.inl e1)), e2, ?_⟩
            generalize Txt.join "" (ds.map sg) = part at hz2 hzl2 ⊢
            have ml := mul_len part m
            have mb : part.length * m ≤ 3 * 40 := Nat.mul_le_mul (by omega) hm
            refine ⟨_, rfl, _, rfl, part, m, rfl, rfl, by omega, by omega, _, rfl, _, rfl, _, _, rfl, rfl, a, g, c, cs, n + 52 + (1 + k2).toNat, _, rfl, s5, by omega, by omega, by omega, fun H6 k3 k30 k31 s6 b6 => ?_⟩
            obtain ⟨k3, rfl⟩ : ∃ j : Nat, k3 = j := ⟨k3.toNat, by omega⟩
            have cm := cut_most (Txt.mul part m) k3
            exact ⟨_, rfl, _, rfl, by omega, rest _ _ _ H6 ((hz2.mul m).cut _ _) (by omega) (s6.mono (by omega)) (((B2.trans b3).trans b4).trans (b5.trans b6))⟩
        · refine if_neg_of (by rw [decide_eq_false (fun e => hk (V.int.inj e))]; decide) ?_
          exact rest none none one H3 hz l1 (s3.mono (by omega)) (B2.trans b3)
end
end SWL
set_option Elab.async false
set_option linter.all false
set_option maxRecDepth 100000
set_option maxHeartbeats 8000000
namespace SWL
open PySem PySem.Spec PyProof.Rows L2 LamX
def qLam : Str := (envOfC "law" (defScope sLaw) 0 0 .none).qual ++ "<lambda>"
/-- the draws and the table of the lambdas' code -/
structure LS (H : Hp) (a g c : Addr) (cs : List Int) (n : Nat) (Pt : Addr) : Prop where
  sat : SAt H a g c cs n
  tab : Tabs [(Pt, qLam)] H
theorem LS.grows {H H' : Hp} {a g c Pt : Addr} {cs : List Int} {n : Nat} (s : LS H a g c cs n Pt) (x : Grows H H') : LS H' a g c cs n Pt := ⟨s.sat.grows x, s.tab.ext x⟩
theorem LS.mono {H : Hp} {a g c Pt : Addr} {cs : List Int} {n m : Nat} (s : LS H a g c cs n Pt) (h : n ≤ m) : LS H a g c cs m Pt := ⟨s.sat.mono h, s.tab⟩
theorem LS.but {H H' : Hp} {a g c Pt : Addr} {cs : List Int} {n m : Nat} (s : LS H a g c cs n Pt) (x : But H H' a g) (s' : SAt H' a g c cs m) : LS H' a g c cs m Pt := by
  refine ⟨s', fun p hp => ?_⟩
  obtain ⟨gs, r, t, h1, h2, _⟩ := s.sat.ex
  obtain ⟨ps, e1, e2, e3⟩ := s.tab p hp
  refine ⟨ps, x _ _ e1 (ne_of e1 h1 (by intro z; cases z)) (ne_of e1 h2 (by intro z; cases z)), e2, fun pos cv hc => ?_⟩
  obtain ⟨d, f1, f2⟩ := e3 pos cv hc
  exact ⟨d, f1, x _ _ f2 (ne_of f2 h1 (by unfold CodeO; intro z; cases z)) (ne_of f2 h2 (by unfold CodeO; intro z; cases z))⟩
theorem LS.ext {H H' : Hp} {a g c Pt : Addr} {cs : List Int} {n : Nat} (s : LS H a g c cs n Pt) (x : ExtN H H') (t : Tabs [(Pt, qLam)] H') : LS H' a g c cs n Pt := by
  obtain ⟨gs, r, t', h1, h2, h3, h4⟩ := s.sat.ex
  exact ⟨⟨gs, r, t', x _ _ h1 (by intro ps z; cases z), x _ _ h2 (by intro ps z; cases z), x _ _ h3 (by intro ps z; cases z), h4⟩, t⟩
theorem LS.offA {H : Hp} {a g c Pt : Addr} {cs : List Int} {n : Nat} (s : LS H a g c cs n Pt) {l : Addr} {xs : List V} (h : H l = some (.lst xs)) : l ≠ a := by
  obtain ⟨gs, r, t, h1, _⟩ := s.sat.ex
  exact ne_of h h1 (by intro z; cases z)
theorem LS.offA' {H : Hp} {a g c Pt : Addr} {cs : List Int} {n : Nat} (s : LS H a g c cs n Pt) {l : Addr} (h : H l = none) : l ≠ a := by
  obtain ⟨gs, r, t, h1, h2, _⟩ := s.sat.ex
  exact (ne_of_none h1 h).symm
theorem LS.offG {H : Hp} {a g c Pt : Addr} {cs : List Int} {n : Nat} (s : LS H a g c cs n Pt) {l : Addr} (h : H l = none) : l ≠ g := by
  obtain ⟨gs, r, t, h1, h2, _⟩ := s.sat.ex
  exact (ne_of_none h2 h).symm
theorem LS.offC {H : Hp} {a g c Pt : Addr} {cs : List Int} {n : Nat} (s : LS H a g c cs n Pt) {l : Addr} (h : H l = none) : l ≠ c := by
  obtain ⟨gs, r, t, h1, h2, h3, _⟩ := s.sat.ex
  exact (ne_of_none h3 h).symm
theorem LS.put {H : Hp} {a g c Pt D : Addr} {cs : List Int} {n : Nat} {xs : List V} (s : LS H a g c cs n Pt) (h : H D = some (.lst xs)) (dG : D ≠ g) (dC : D ≠ c) (ys : List V) : LS (upd H D (.lst ys)) a g c cs n Pt := by
  have dA := s.offA h
  obtain ⟨gs, r, t, h1, h2, h3, h4⟩ := s.sat.ex
  refine ⟨⟨gs, r, t, by rw [upd_ne dA.symm]; exact h1, by rw [upd_ne dG.symm]; exact h2, by rw [upd_ne dC.symm]; exact h3, h4⟩, fun p hp => ?_⟩
  obtain ⟨ps, e1, e2, e3⟩ := s.tab p hp
  refine ⟨ps, by rw [upd_ne (ne_of e1 h (by intro z; cases z))]; exact e1, e2, fun pos cv hc => ?_⟩
  obtain ⟨d, f1, f2⟩ := e3 pos cv hc
  exact ⟨d, f1, by rw [upd_ne (ne_of f2 h (by unfold CodeO; intro z; cases z))]; exact f2⟩
theorem tyx_ext {K : PySem.W.Frag} {H H' : Hp} (g : ExtN H H') {x : V} {t : Value} (h : TyX K H x t) : TyX K H' x t := by
  have no : ∀ {o : HO}, (∀ ps, o ≠ .tbl ps) → ∀ {b}, H b = some o → H' b = some o := fun n b e => g b _ e n
  cases h with
  | base b =>
    cases b with
    | non => exact .base .non
    | bl y => exact .base (.bl y)
    | int i => exact .base (.int i)
    | str z => exact .base (.str z)
    | flt z => exact .base (.flt z)
    | lst e => exact .base (.lst (no (by intro ps z; cases z) e))
    | frz e => exact .base (.frz (no (by intro ps z; cases z) e))
    | tup e => exact .base (.tup (no (by intro ps z; cases z) e))
    | dK e => exact .base (.dK (no (by intro ps z; cases z) e))
    | dT e => exact .base (.dT (no (by intro ps z; cases z) e))
    | ins e cl ha hn ht hm => exact .base (.ins (no (by intro ps z; cases z) e) cl ha hn ht hm)
  | byt b => exact .byt b
  | set e => exact .set (no (by intro ps z; cases z) e)
  | kList e c => exact .kList e c
  | kTuple e c => exact .kTuple e c
  | kDict e c => exact .kDict e c
  | fTuple e => exact .fTuple (no (by intro ps z; cases z) e)
  | fDict e => exact .fDict (no (by intro ps z; cases z) e)
theorem Grows.extN {H H' : Hp} (g : Grows H H') : ExtN H H' := fun b o h _ => g b o h
theorem ExtN.tr {H H1 H2 : Hp} (a : ExtN H H1) (b : ExtN H1 H2) : ExtN H H2 := fun c o h n => b c o (a c o h n) n
/-- isinstance(_law_caught(lambda: ..), C), where the lambda raises a C -/
theorem go_caught {K : PySem.W.Frag} {Pt C CS : Addr} {t : XK → TE} {σ : L2.St} {H : Hp} {Q : VK} (R : Hp → Prop) (exm : PySem.W.exmOne K (.ref C) (.ref CS) = some true) (EC : ExcC K C) (kit : PySem.W.kitOne K (.ref C) (.ref C) = some true) (tab : Tabs [(Pt, qLam)] H)
    (h : ∀ H1 E Q', ExtN H H1 → Tabs [(Pt, qLam)] H1 → (∀ H2, R H2 → E (.ref C) none H2) → t E σ H1 Q') (q : ∀ H2 a, R H2 → H2 a = none → Q (.bl true) (upd H2 a (.ext (Kept (.ref C) none a)))) :
    tCB (rIsKept K) (tCons (tLam [(Pt, qLam)] (TCaught K CS) t) (tCons (tC (.ref C)) tNil)) σ H Q := by
  refine ⟨tab, fun H1 e1 t1 => ?_⟩
  refine h H1 _ _ e1 t1 fun H2 r2 => ⟨exm, fun a na => ?_⟩
  exact ⟨a, C, .ref C, .ref C, true, rfl, upd_same, EC, fun u r => r, kit, q H2 a r2 na⟩
def spLaw (K : PySem.W.Frag) (Pt : Addr) : Sp := fun vs H Q _ => ∃ (a : Addr) (ns : List Int), vs = [.ref a] ∧ SqL K H a (ns.map V.int) ∧ ns.length ≤ 63 ∧ H Pt = some (.tbl #[]) ∧ ∀ H', Q (.bl true) H'
/-- an error class as isinstance and except see it -/
structure SeenC (K : PySem.W.Frag) (C CS : Addr) : Prop where
  exm : PySem.W.exmOne K (.ref C) (.ref CS) = some true
  ec : ExcC K C
  kit : PySem.W.kitOne K (.ref C) (.ref C) = some true
theorem odd_grows {H H' : Hp} (g : Grows H H') {ls : Str} {x : V} (h : Odd H ls x) : Odd H' ls x := by
  rcases h with e | e | ⟨t, e, ht⟩ | ⟨t, e, ht⟩ | e | e | e | e
  · exact .inl e
  · exact .inr (.inl e)
  · exact .inr (.inr (.inl ⟨t, e, g _ _ ht⟩))
  · exact .inr (.inr (.inr (.inl ⟨t, e, g _ _ ht⟩)))
  · exact .inr (.inr (.inr (.inr (.inl e))))
  · exact .inr (.inr (.inr (.inr (.inr (.inl e)))))
  · exact .inr (.inr (.inr (.inr (.inr (.inr (.inl e))))))
  · exact .inr (.inr (.inr (.inr (.inr (.inr (.inr e))))))
theorem scCaught : FnScope ["action", "found", "error"] ["action"] (defScope sCaught) := ⟨rfl, rfl, rfl, by decide +kernel, rfl, by decide +kernel, by decide +kernel⟩
/-- _law_caught, as it stands -/
structure CaughtK (K : PySem.W.Frag) (mg : Str → Option Value) (fC : Addr) : Prop where
  g : mg "_law_caught" = some (.ref fC)
  k : PySem.W.keepIn K (.ref fC) = true
  ex : ∃ (oc kV doc pm cdv ct : Value) (an od : Option Addr) (osl : Array (Option Value)), K.lookup fC = some ⟨oc, od, .func (PySem.W.fnOf "_law_caught" "_law_caught" (defArgs sCaught) (defBody sCaught) (defScope sCaught) .none kV doc pm an cdv ct), osl⟩ ∧ PySem.W.codeIn K cdv "_law_caught" = true ∧
    L2.Binds K (PySem.W.fnOf "_law_caught" "_law_caught" (defArgs sCaught) (defBody sCaught) (defScope sCaught) .none kV doc pm an cdv ct) ["action"] []
theorem LS.butK {H H' : Hp} {a g c Pt k : Addr} {cs : List Int} {n : Nat} {kv : List (List Key × V)} (s : LS H a g c cs n Pt) (hk : H k = some (.dT kv)) (x : But H H' k k) : LS H' a g c cs n Pt := by
  obtain ⟨gs, r, t, h1, h2, h3, h4⟩ := s.sat.ex
  have n1 := ne_of h1 hk (by intro z; cases z)
  have n2 := ne_of h2 hk (by intro z; cases z)
  have n3 := ne_of h3 hk (by intro z; cases z)
  refine ⟨⟨gs, r, t, x _ _ h1 n1 n1, x _ _ h2 n2 n2, x _ _ h3 n3 n3, h4⟩, fun p hp => ?_⟩
  obtain ⟨ps, e1, e2, e3⟩ := s.tab p hp
  have n4 := ne_of e1 hk (by intro z; cases z)
  refine ⟨ps, x _ _ e1 n4 n4, e2, fun pos cv hc => ?_⟩
  obtain ⟨d, f1, f2⟩ := e3 pos cv hc
  have n5 := ne_of f2 hk (by unfold CodeO; intro z; cases z)
  exact ⟨d, f1, x _ _ f2 n5 n5⟩
theorem KnT.draw {U : List Wl} {H H' : Hp} {a g c Pt k : Addr} {cs : List Int} {n : Nat} {T : KT} (t : KnT U H k T) (s : LS H a g c cs n Pt) (x : But H H' a g) : KnT U H' k T := by
  obtain ⟨gs, r, tt, h1, h2, h3, h4⟩ := s.sat.ex
  refine ⟨x _ _ t.at_ (ne_of t.at_ h1 (by intro z; cases z)) (ne_of t.at_ h2 (by intro z; cases z)), fun e he => NkAt.keep (fun b xs hb => x _ _ hb (ne_of hb h1 (by intro z; cases z)) (ne_of hb h2 (by intro z; cases z))) _ (t.good e he), t.nd, t.all⟩
theorem eqv_same (n : Nat) (u v : Wl) : PyData.eqv (tyN n u).data (tyN n v).data = sameB n u v := by
  rw [eqv_decide, Bool.eq_iff_iff, decide_eq_true_eq, sameB_iff]
  exact tyN_same n u v
theorem okW_of {ls z : Str} {m : Nat} (h : Of ls z) (hl : z.length ≤ m) : okWord ls z m = true := by
  unfold okWord
  rw [Bool.and_eq_true]
  exact ⟨decide_eq_true (by omega), List.all_eq_true.mpr fun c hc => decide_eq_true (h c hc)⟩
theorem bad_sign {ls z : Str} {c : Nat} (m : Nat) (hc : c ∈ z.cps.toList) (hn : c ∉ ls.cps.toList) : okWord ls z m = false := by
  unfold okWord
  have e : (z.cps.toList.all fun c => decide (c ∈ ls.cps.toList)) = false := by
    rw [Bool.eq_false_iff]
    intro h
    exact hn (of_decide_eq_true (List.all_eq_true.mp h c hc))
  rw [e, Bool.and_false]
theorem bad_len {ls z : Str} {m : Nat} (h1 : m < z.length) : okWord ls z m = false := by
  unfold okWord
  rw [Bool.and_eq_false_iff]
  exact .inl (decide_eq_false (by omega))
theorem odd_badM {K : PySem.W.Frag} {H : Hp} {ls : Str} {x : V} (m : Nat) (lo : Lot ls) (h : Odd H ls x) : NotStr K H x ∨ ∃ z, x = .str z ∧ z.length ≤ sizeLine ∧ okWord ls z m = false := by
  have sz : sizeLine = 16777216 := sizeLine_eq
  rcases h with rfl | rfl | ⟨t, rfl, ht⟩ | ⟨t, rfl, ht⟩ | rfl | rfl | rfl | rfl
  · exact .inl ⟨"NoneType", .base .non, by decide +kernel⟩
  · exact .inl ⟨"int", .base (.int 5), by decide +kernel⟩
  · exact .inl ⟨"tuple", .base (.tup ht), by decide +kernel⟩
  · exact .inl ⟨"list", .base (.lst ht), by decide +kernel⟩
  · exact .inr ⟨"A", rfl, by show 1 ≤ sizeLine; omega, bad_sign (c := 65) m (by decide +kernel) lo.A⟩
  · exact .inr ⟨"a b", rfl, by show 3 ≤ sizeLine; omega, bad_sign (c := 32) m (by decide +kernel) lo.sp⟩
  · refine .inr ⟨_, rfl, ?_, bad_sign (c := 113) m ?_ lo.q⟩
    · rw [app_len]
      have := lo.len
      have e : ("q" : Str).length = 1 := rfl
      omega
    · rw [app_cps]
      exact List.mem_append_right _ (by decide +kernel)
  · exact .inl ⟨"bool", .base (.bl true), by decide +kernel⟩
/-- this law's own type of a word -/
theorem go_own {U : List Wl} {z : Str} {n : Nat} {k : Addr} {T : KT} {H : Hp} {Q : VK} {E : XK} (hn : n ≤ 3) (t : KnT U H k T) (l : z.length ≤ 40) (u : z.cps.toList ∈ U) (cU : Cut U) (lU : U.length ≤ 100000)
    (q : ∀ H' T' v, KnT U H' k T' → But H H' k k → NkAt H' (.ref v) (tyN n z.cps.toList) → Q (.ref v) H') : spTold 3 [.int ((n : Nat) : Int), .str z, .ref k] H Q E :=
  ⟨n, z, k, T, U, rfl, hn, Nat.le_refl _, t, l, u, cU, lU, fun H' T' v t' _ b nk => q H' T' v t' b nk⟩
theorem knT_new {U : List Wl} {H : Hp} {k : Addr} : KnT U (upd H k (.dT [])) k [] := ⟨upd_same, fun e he => (by cases he), List.nodup_nil, fun e he => (by cases he)⟩
def wtL (l : Nat) : Nat → Nat
  | 0 => 1
  | n + 1 => (l + 1) * (3 * (wtL l n + 1) + 1)
theorem wtL_pos (l : Nat) : ∀ n, 1 ≤ wtL l n
  | 0 => Nat.le_refl _
  | n + 1 => by
    show 1 ≤ (l + 1) * (3 * (wtL l n + 1) + 1)
    exact Nat.mul_pos (by omega) (by omega)
theorem fit_tyL (l : Nat) : ∀ (n : Nat) {w : Wl}, w.length ≤ l → (∀ c ∈ w, c < 0x110000) → Fit (wtL l n) (tyN n w)
  | 0, _, _, _ => ⟨rfl, rfl, rfl, rfl, by show PyData.weight (.tuple []) ≤ 1; rw [PyData.weight, PyData.weightAll]; omega⟩
  | n + 1, w, hl, hc => by
    refine fit_tup (m := 3 * (wtL l n + 1)) (l := l + 1) (fun k hk => ?_) ?_
    · obtain ⟨i, c, hi, rfl⟩ := trisF_mem.mp ((firstsN_mem _).mp (sortN_mem.mp hk))
      refine fit_tup (l := 3) (fun x hx => ?_) (by simp)
      simp only [List.mem_cons, List.not_mem_nil, or_false] at hx
      rcases hx with rfl | rfl | rfl
      · exact fit_tyL l n (by rw [List.length_take]; omega) fun d hd => hc d (List.mem_of_mem_take hd)
      · exact fit_sg (hc c (List.mem_of_getElem? hi)) (wtL_pos l n)
      · exact fit_tyL l n (by rw [List.length_drop]; omega) fun d hd => hc d (List.mem_of_mem_drop hd)
    · have h1 := firstsN_len (trisF (tyN n) w w.length)
      have h2 : (trisF (tyN n) w w.length).length = w.length := by unfold trisF; rw [List.length_map, List.length_range]
      unfold sortN
      rw [List.length_mergeSort]
      omega
theorem shaped_ty {n : Nat} {w : Wl} (hn : n ≤ 8) (hc : ∀ c ∈ w, c < 0x110000) : SeqAt.shaped (tyN n w).data = true := by
  have f := fit_tyL w.length n (Nat.le_refl _) hc
  have d : (tyN n w).data.depth ≤ 64 := by
    rw [data_depth]
    have := ty_depth n ⟨w, rfl⟩
    omega
  show (PyData.canLay0 _ && decide (PyData.depth _ ≤ 64)) = true
  rw [f.can, decide_eq_true d]
  rfl
theorem rep_cps (c n : Nat) : (Txt.mul (sg c) ((n : Nat) : Int)).cps.toList = List.replicate n c := by
  rw [mul_cps]
  show (List.replicate n [c]).flatten = _
  induction n with
  | zero => rfl
  | succ n ih => rw [List.replicate_succ, List.flatten_cons, ih]; rfl
theorem rep_len (c n : Nat) : (Txt.mul (sg c) ((n : Nat) : Int)).length = n := by
  rw [← cut_len, rep_cps, List.length_replicate]
abbrev NL : List Str := ["script", "state", "turn", "other", "x", "n", "found", "met", "same", "some", "at", "value", "due", "bad", "letters", "odd", "one", "word", "triple"]
theorem scLaw : FnScope NL ["script"] (defScope sLaw) := ⟨rfl, rfl, rfl, by decide +kernel, rfl, by decide +kernel, by decide +kernel⟩
abbrev ksB : List Str := ["letters", "n", "one", "other"]
/-- what the law calls -/
structure Callees (P : Program) (w : World) (K : PySem.W.Frag) (mg : Str → Option Value) (base : Heap) (CN CM CW : Addr) : Prop where
  begun : ∃ f fd, Def mg K "_law_begun" f fd ["script"] ∧ FnOk P w K mg base CX0 1 f fd ["script"] (spBegun K)
  draw : ∃ f fd, Def mg K "_law_draw" f fd ["state", "room"] ∧ FnOk P w K mg base CX0 2 f fd ["state", "room"] spDraw
  pick : ∃ f fd, Def mg K "_law_pick" f fd ["state", "some"] ∧ FnOk P w K mg base CX0 3 f fd ["state", "some"] spPick
  odd : ∃ f fd, Def mg K "_law_mo_odd_word" f fd ["state", "letters"] ∧ FnOk P w K mg base CX0 4 f fd ["state", "letters"] spOdd
  pair : ∃ f fd, Def mg K "_law_ty_pair" f fd ["state", "letters", "most"] ∧ FnOk P w K mg base CX0 4 f fd ["state", "letters", "most"] spTyPair
  plain : ∃ f fd, Def mg K "_law_plain" f fd ["value"] ∧ FnOk P w K mg base CX0 9 f fd ["value"] (spPlain K 8)
  is : ∃ f fd, Def mg K "_law_is" f fd ["found", "due"] ∧ FnG P w K mg base 10 f fd ["found", "due"] (spIsV K 8)
  type : ∃ f fd, Def mg K "_law_ty_type" f fd ["n", "word", "met"] ∧ FnOk P w K mg base CX0 4 f fd ["n", "word", "met"] (spTold 3)
  law : ∃ f fd, Def mg K "_law_bd_is" f fd ["letters", "n", "one", "other", "value"] ∧ FnOk P w K mg base CX0 3 f fd ["letters", "n", "one", "other", "value"] (spLawBd K)
  bond : ∃ f fd, Def mg K "bond" f fd ksB ∧ KBinds K fd ksB ["other", "one", "n", "letters"] (fun us ws => us ++ ws.reverse) (fun us ws => us ++ ws.reverse) ∧ FnOk P w K mg base (L2.CX P w) 21 f fd ksB (spBond K CN CM CW)
  isB : ∃ f fd, Def mg K "is_bond" f fd ["letters", "n", "one", "other", "thing"] ∧ FnOk P w K mg base (L2.CX P w) 5 f fd ["letters", "n", "one", "other", "thing"] (spIsBond K CN CM CW)
abbrev rMulS : R2 := fun x y H Q => ∃ (z : Str) (n : Nat), x = .str z ∧ y = .int n ∧ n ≤ 1000000 ∧ z.length * n ≤ 1000000 ∧ Q (.str (Txt.mul z n)) H
theorem bad_long {K : PySem.W.Frag} {H : Hp} {ls z : Str} (h1 : z.length = 13) : BadV K H ls (.str z) := .inr ⟨z, rfl, by rw [h1]; decide, bad_len (m := 12) (by omega)⟩
theorem odd_bad {K : PySem.W.Frag} {H : Hp} {ls : Str} {x : V} (lo : Lot ls) (h : Odd H ls x) : BadV K H ls x := odd_badM 12 lo h
theorem BadV.ext {K : PySem.W.Frag} {H H' : Hp} (g : ExtN H H') {ls : Str} {x : V} (h : BadV K H ls x) : BadV K H' ls x := h.imp (fun ⟨t, h1, h2⟩ => ⟨t, tyx_ext g h1, h2⟩) id
def oddsN : List V := [.int (-1), .int 5, .non, .bl true, .str "1"]
theorem odd_num {K : PySem.W.Frag} {H : Hp} {x : V} (h : x ∈ oddsN) : BadR K 0 4 H x := by
  simp only [oddsN, List.mem_cons, List.not_mem_nil, or_false] at h
  rcases h with rfl | rfl | rfl | rfl | rfl
  · exact .inr ⟨_, rfl, by decide⟩
  · exact .inr ⟨_, rfl, by decide⟩
  · exact .inl (.inr ⟨"NoneType", .base .non, by decide +kernel⟩)
  · exact .inl (.inl ⟨true, rfl⟩)
  · exact .inl (.inr ⟨"str", .base (.str "1"), by decide +kernel⟩)
theorem go_game {K : PySem.W.Frag} {CN CM CW : Addr} {ls z1 z2 : Str} {n : Nat} {H : Hp} {E : XK} {R : Str → Nat → Str → Str → Prop} (hl : ls.length ≤ sizeLine) (ok : okLetters ls = true) (hn : n ≤ 4) (o1 : Of ls z1) (l1 : z1.length ≤ 12) (o2 : Of ls z2) (l2 : z2.length ≤ 12) (r : R ls n z1 z2) : GameP K CN CM CW H E (.str ls) (.int ((n : Nat) : Int)) (.str z1) (.str z2) R :=
  .inr ⟨ls, rfl, hl, ok, .inr ⟨n, rfl, hn, .inr ⟨z1, rfl, l1, okW_of (m := 12) o1 l1, .inr ⟨z2, rfl, l2, okW_of (m := 12) o2 l2, r⟩⟩⟩⟩
/-- a value that is given as a bond, its list none of the state's -/
def GvAt (ls : Str) (g : Addr) (H : Hp) (v : V) : Option (List (Option Tp)) → Prop
  | none => v = .non
  | some os => ∃ (p : Addr) (xs : List V), v = .ref p ∧ p ≠ g ∧ (H p = some (.lst xs) ∨ H p = some (.tup xs)) ∧ Paired (ItAt ls H) xs os ∧ xs.length ≤ 1000000
theorem GvAt.grows {ls : Str} {g : Addr} {H H' : Hp} (k : Grows H H') {v : V} {o : Option (List (Option Tp))} (h : GvAt ls g H v o) : GvAt ls g H' v o := by
  cases o with
  | none => exact h
  | some os =>
    obtain ⟨p, xs, e, ng, hp, pr, l⟩ := h
    exact ⟨p, xs, e, ng, hp.imp (k _ _) (k _ _), Paired.mapP pr fun _ _ q => q.keep fun b zs z => k _ _ z, l⟩
theorem GvAt.give {K : PySem.W.Frag} {ls : Str} {g : Addr} {H : Hp} {v : V} {o : Option (List (Option Tp))} (h : GvAt ls g H v o) : GiveAt K ls H v o := by
  cases o with
  | none => exact h
  | some os =>
    obtain ⟨p, xs, e, ng, hp, pr, l⟩ := h
    refine ⟨p, xs, e, ?_, pr, l⟩
    rcases hp with hp | hp
    · exact .inl (.inl (.inl hp))
    · exact .inr (.inl (.inl hp))
/-- tuples stay when the state's own things change -/
theorem tups_but {H H' : Hp} {a g c Pt : Addr} {cs : List Int} {n : Nat} (s : LS H a g c cs n Pt) (x : But H H' a g) : ∀ b zs, H b = some (.tup zs) → H' b = some (.tup zs) := fun b zs e => by
  obtain ⟨gs, r, t, h1, h2, _⟩ := s.sat.ex
  exact x _ _ e (ne_of e h1 (by intro z; cases z)) (ne_of e h2 (by intro z; cases z))
theorem GvAt.but {ls : Str} {H H' : Hp} {a g c Pt : Addr} {cs : List Int} {n : Nat} (s : LS H a g c cs n Pt) (x : But H H' a g) {v : V} {o : Option (List (Option Tp))} (h : GvAt ls g H v o) : GvAt ls g H' v o := by
  cases o with
  | none => exact h
  | some os =>
    obtain ⟨p, xs, e, ng, hp, pr, l⟩ := h
    refine ⟨p, xs, e, ng, ?_, Paired.mapP pr fun _ _ q => q.keep (tups_but s x), l⟩
    rcases hp with hp | hp
    · exact .inl (x _ _ hp (s.offA hp) ng)
    · exact .inr (tups_but s x _ _ hp)
abbrev GvsAt (ls : Str) (g : Addr) (H : Hp) : List V → List (Option (List (Option Tp))) → Prop := Paired (GvAt ls g H)
/-- triples of the letters -/
def OkTs (ls : Str) (ts : List Tp) : Prop := ∀ t ∈ ts, t.1 ≤ 4 ∧ okWord ls (sW t.2.1) 12 = true ∧ okWord ls (sW t.2.2) 12 = true
theorem its_of {ls : Str} {H : Hp} {xs : List V} {ts : List Tp} (p : TpsAt H xs ts) (ok : OkTs ls ts) : Paired (ItAt ls H) xs (ts.map some) := by
  unfold TpsAt at p
  induction p with
  | nil => exact .nil
  | @cons x t xs ts h r ih =>
    exact .cons ⟨h, ok t List.mem_cons_self⟩ (ih fun s hs => ok s (List.mem_cons_of_mem _ hs))
theorem okW_sW {ls : Str} {w : Wl} (h : ∀ c ∈ w, c ∈ ls.cps.toList) (l : w.length ≤ 12) : okWord ls (sW w) 12 = true := by
  have := okW_of (ls := ls) (z := sW w) (m := 12) (fun c hc => h c (by rw [sW_cps] at hc; exact hc)) (by rw [sW_len]; exact l)
  exact this
theorem firstsP_of_nd : ∀ (l acc : List Tp), (acc ++ l).Nodup → l.foldl oneP acc = acc ++ l
  | [], acc, _ => by simp
  | t :: l, acc, nd => by
    have h : t ∉ acc := fun h => by
      rw [List.nodup_append] at nd
      exact nd.2.2 t h t List.mem_cons_self rfl
    rw [List.foldl_cons, show oneP acc t = acc ++ [t] from if_neg h, firstsP_of_nd l (acc ++ [t]) (by rw [List.append_assoc]; exact nd), List.append_assoc]
    rfl
theorem pw_nodup {ts : List Tp} (h : ts.Pairwise LtP) : ts.Nodup := h.imp fun {x y} k e => by
  subst e
  exact ltP_asym k k
/-- sorted once more, each once: the same -/
theorem sort_same {ts : List Tp} (h : ts.Pairwise LtP) {us : List Tp} (e : us.map kP = ((firstsP ts).map kP).mergeSort (PySem.W.dataLe false encT)) : us = ts := by
  have nd := pw_nodup h
  have ef : firstsP ts = ts := by
    have := firstsP_of_nd ts [] (by simpa using nd)
    simpa [firstsP] using this
  rw [ef] at e
  obtain ⟨p, m⟩ := sortP_pw nd e
  exact strict_eq (fun a b k => ltP_asym k) p h m
theorem sorted_one {ts us : List Tp} {l : List Tp} (h : ts.Pairwise LtP) (k : us.Pairwise LtP) (m1 : ∀ t, t ∈ ts ↔ t ∈ l) (m2 : ∀ t, t ∈ us ↔ t ∈ l) : us = ts :=
  strict_eq (fun a b k => ltP_asym k) k h fun t => (m2 t).trans (m1 t).symm
end SWL
set_option Elab.async false
set_option linter.all false
set_option maxRecDepth 100000
set_option maxHeartbeats 8000000
namespace SWL
open PySem PySem.Spec PyProof.Rows L2 LamX
/-! parts of the law -/
theorem cut_13 (z : Str) : (cutS z (some 1) (some 3)).length ≤ 2 := by
  have h1 : HT.sIx z.length 0 (some 1) = min 1 z.length := HT.sIx_nat _ _ 1
  have h2 : HT.sIx z.length z.length (some 3) = min 3 z.length := HT.sIx_nat _ _ 3
  rw [← cut_len]
  unfold cutS
  rw [h1, h2]
  show ((z.cps.toList.drop _).take _).length ≤ 2
  rw [List.length_take]
  omega
abbrev tLong : TE := tOp rAddS (tOp rAddS (tSl rSlS (tVar 16) tNoPart (tPart (tC (.int 1)))) (tOp rMulS (tVar 4) (tOp rAdd (tC (.int 3)) (tCall spDraw [] E0 (tCons (tVar 1) (tCons (tC (.int 4)) tNil)))))) (tSl rSlS (tVar 16) (tPart (tC (.int 1))) (tPart (tC (.int 3))))
theorem long_go {σ : L2.St} {H : Hp} {Q : VK} {ls one : Str} {a g cA : Addr} {cs : List Int} {n d : Nat} (h1 : σ[1]? = some (some (.ref a))) (h4 : σ[4]? = some (some (.str ⟨#[d]⟩))) (h16 : σ[16]? = some (some (.str one))) (o : Of ls one) (l : one.length ≤ 9) (hd : d ∈ ls.cps.toList) (s : SAt H a g cA cs n) (hn : n ≤ 1000000)
    (q : ∀ H' z, Of ls z → z.length ≤ 9 → SAt H' a g cA cs (n + 1) → But H H' a g → Q (.str z) H') : tLong σ H Q := by
  have sz : sizeLine = 16777216 := sizeLine_eq
  have c1 : (cutS one none (some 1)).length ≤ 1 := cut_most one 1
  have c2 := cut_13 one
  refine ⟨_, h16, ?_⟩
  dsimp only [tNoPart]
  refine ⟨_, rfl, one, rfl, by omega, _, h4, _, h1, a, g, cA, cs, n, 4, rfl, s, hn, by decide, by decide, fun H1 k k0 k1 s1 b1 => ?_⟩
  obtain ⟨j, hj⟩ : ∃ j : Nat, 3 + k = j := ⟨(3 + k).toNat, by omega⟩
  have one_sg : (sg d).length = 1 := rfl
  have lm := rep_len d j
  refine ⟨_, _, rfl, rfl, sg d, j, rfl, by rw [← hj], by omega, by rw [one_sg]; omega, _, _, rfl, rfl, by omega, _, h16, _, rfl, _, rfl, one, rfl, by omega, _, _, rfl, rfl, by rw [app_len]; omega, ?_⟩
  refine q H1 _ (((o.cut none (some 1)).app ((Of.sg hd).mul j)).app (o.cut (some 1) (some 3))) ?_ s1 b1
  rw [app_len, app_len]
  omega
/-- what bond gives: nothing, or the list of all triples reached, in order -/
def FV (H H' : Hp) (fv : V) (n : Nat) (u v : Wl) : Prop := (fv = .non ∧ ¬ Same n u v) ∨ ∃ (p : Addr) (xs : List V) (ts : List Tp), fv = .ref p ∧ H p = none ∧ H' p = some (.lst xs) ∧ TpsAt H' xs ts ∧ ts.Pairwise LtP ∧ (∀ t, t ∈ ts ↔ t ∈ treeN n u v) ∧ Same n u v
theorem go_bond {K : PySem.W.Frag} {CN CM CW : Addr} {ls z1 z2 : Str} {n : Nat} {H : Hp} {Q : VK} {E : XK} (hl : ls.length ≤ sizeLine) (ok : okLetters ls = true) (hn : n ≤ 4) (o1 : Of ls z1) (l1 : z1.length ≤ 12) (o2 : Of ls z2) (l2 : z2.length ≤ 12) (q : ∀ H' fv, Grows H H' → FV H H' fv n z1.cps.toList z2.cps.toList → Q fv H') : spBond K CN CM CW [.str ls, .int ((n : Nat) : Int), .str z1, .str z2] H Q E :=
  ⟨.str ls, _, .str z1, .str z2, rfl, go_game hl ok hn o1 l1 o2 l2 ⟨fun hs H' g => q H' _ g (.inl ⟨rfl, hs⟩), fun hs H' p xs ts g np kp pr pw mem => q H' _ g (.inr ⟨p, xs, ts, rfl, np, kp, pr, pw, mem, hs⟩)⟩⟩
theorem gv_of {ls : Str} {g p : Addr} {H : Hp} {xs : List V} {ts : List Tp} (kp : H p = some (.lst xs) ∨ H p = some (.tup xs)) (ng : p ≠ g) (pr : TpsAt H xs ts) (ok : OkTs ls ts) (few : xs.length ≤ 1000000) : GvAt ls g H (.ref p) (some (ts.map some)) := ⟨p, xs, rfl, ng, kp, its_of pr ok, few⟩
/-- a list of one triple -/
theorem one_go {σ : L2.St} {H : Hp} {Q : VK} {ta : TA} {t : Tp} (h : ∀ R : List V → Hp → Prop, R (tupP t) H → ta σ H R) (q : ∀ H' p b, Grows H H' → H p = none → H' p = some (.lst [.ref b]) → TpsAt H' [.ref b] [t] → Q (.ref p) H') : tLst (tCons (tTup ta) tNil) σ H Q := by
  refine h _ ⟨by show 3 ≤ sizeLine; decide, fun b nb => ⟨by show 1 ≤ sizeLine; decide, fun p np => ?_⟩⟩
  have g1 : Grows H (upd H b (.tup (tupP t))) := Grows.new nb
  have k1 : upd H b (.tup (tupP t)) b = some (.tup (tupP t)) := upd_same
  generalize upd H b (.tup (tupP t)) = H1 at g1 k1 np ⊢
  have g2 : Grows H1 (upd H1 p (.lst [.ref b])) := Grows.new np
  exact q _ p b (g1.trans g2) (g1.not_new np) upd_same (.cons ⟨b, rfl, g2 _ _ k1⟩ .nil)
theorem cut_tps {H : Hp} {xs : List V} {ts : List Tp} (p : TpsAt H xs ts) (lo hi : Option Int) : ∃ us, TpsAt H (cutV xs lo hi) us ∧ ∀ t ∈ us, t ∈ ts := by
  unfold cutV
  exact ⟨_, tps_take (tps_drop p _) _, fun t ht => List.mem_of_mem_drop (List.mem_of_mem_take ht)⟩
theorem eqv_tps {ts : List Tp} (h : ∀ t ∈ ts, okTp t) : PyData.eqv (.list (ts.map tpD)) (.list (ts.map tpD)) = true := by
  have := shaped_tps h
  exact SeqAt.eqv_refl _ (SeqAt.canLay_of_shaped this)
/-- FV, seen later -/
structure FAt (ls : Str) (g : Addr) (H : Hp) (p : Addr) (xs : List V) (ts : List Tp) : Prop where
  at_ : H p = some (.lst xs)
  ng : p ≠ g
  pr : TpsAt H xs ts
  pw : ts.Pairwise LtP
  ok : OkTs ls ts
  pos : ∀ t ∈ ts, 1 ≤ t.1
  few : ts.length ≤ 1333
  oktp : ∀ t ∈ ts, okTp t
theorem FAt.grows {ls : Str} {g p : Addr} {H H' : Hp} {xs : List V} {ts : List Tp} (f : FAt ls g H p xs ts) (k : Grows H H') : FAt ls g H' p xs ts := ⟨k _ _ f.at_, f.ng, f.pr.keep fun b zs z => k _ _ z, f.pw, f.ok, f.pos, f.few, f.oktp⟩
theorem FAt.but {ls : Str} {a g c Pt p : Addr} {cs : List Int} {n : Nat} {H H' : Hp} {xs : List V} {ts : List Tp} (f : FAt ls g H p xs ts) (s : LS H a g c cs n Pt) (x : But H H' a g) : FAt ls g H' p xs ts := ⟨x _ _ f.at_ (s.offA f.at_) f.ng, f.ng, f.pr.keep (tups_but s x), f.pw, f.ok, f.pos, f.few, f.oktp⟩
theorem FAt.butK {ls : Str} {g p k : Addr} {kv : List (List Key × V)} {H H' : Hp} {xs : List V} {ts : List Tp} (f : FAt ls g H p xs ts) (hk : H k = some (.dT kv)) (x : But H H' k k) : FAt ls g H' p xs ts := by
  have n1 := ne_of f.at_ hk (by intro z; cases z)
  refine ⟨x _ _ f.at_ n1 n1, f.ng, f.pr.keep fun b zs z => ?_, f.pw, f.ok, f.pos, f.few, f.oktp⟩
  have n2 := ne_of z hk (by intro z; cases z)
  exact x _ _ z n2 n2
theorem FAt.lx {ls : Str} {g p : Addr} {H : Hp} {xs : List V} {ts : List Tp} (f : FAt ls g H p xs ts) : xs.length ≤ 1333 := by
  rw [Paired.length f.pr]
  exact f.few
theorem FAt.gv {ls : Str} {g p : Addr} {H : Hp} {xs : List V} {ts : List Tp} (f : FAt ls g H p xs ts) : GvAt ls g H (.ref p) (some (ts.map some)) := gv_of (.inl f.at_) f.ng f.pr f.ok (by have := f.lx; omega)
theorem FAt.dp {K : PySem.W.Frag} {ls : Str} {g p : Addr} {H : Hp} {xs : List V} {ts : List Tp} (f : FAt ls g H p xs ts) : Dp K H (.ref p) (.list (ts.map tpD)) := .lst (.inl (.inl f.at_)) (tps_dp f.pr)
/-- what is known of a bond that is told -/
theorem fat_of {ls one other : Str} {g p : Addr} {H : Hp} {xs : List V} {ts : List Tp} {n : Nat} (lo : Lot ls) (hn : n ≤ 3) (o1 : Of ls one) (l1 : one.length ≤ 9) (o2 : Of ls other) (l2 : other.length ≤ 9) (kp : H p = some (.lst xs)) (ng : p ≠ g) (pr : TpsAt H xs ts) (pw : ts.Pairwise LtP) (mem : ∀ t, t ∈ ts ↔ t ∈ treeN n one.cps.toList other.cps.toList) (hs : Same n one.cps.toList other.cps.toList) : FAt ls g H p xs ts := by
  have m1 : one.cps.toList.length = one.length := cut_len one
  have m2 : other.cps.toList.length = other.length := cut_len other
  have cl : CutP fun w => w.length ≤ 9 ∧ ∀ c ∈ w, c ∈ ls.cps.toList := fun w ⟨h1, h2⟩ i => ⟨⟨by rw [List.length_take]; omega, fun c hc => h2 c (List.mem_of_mem_take hc)⟩, ⟨by rw [List.length_drop]; omega, fun c hc => h2 c (List.mem_of_mem_drop hc)⟩⟩
  have tm := fun t ht => tree_mem cl n ⟨by omega, o1⟩ ⟨by omega, o2⟩ hs t ((mem t).mp ht)
  have few : ts.length ≤ 1333 := by
    have h1 := len_within ts (treeN n one.cps.toList other.cps.toList) (pw_nodup pw) fun t ht => (mem t).mp ht
    have h2 := tree_len 18 n (u := one.cps.toList) (v := other.cps.toList) (by omega)
    have h3 : wF 18 n ≤ 1333 := by
      rcases (by omega : n = 0 ∨ n = 1 ∨ n = 2 ∨ n = 3) with rfl | rfl | rfl | rfl <;> decide +kernel
    omega
  refine ⟨kp, ng, pr, pw, fun t ht => ?_, fun t ht => (tm t ht).1, few, fun t ht => ?_⟩
  · obtain ⟨_, h2, _, ⟨h4, h5⟩, ⟨h6, h7⟩, _⟩ := tm t ht
    exact ⟨by omega, okW_sW h5 (by omega), okW_sW h7 (by omega)⟩
  · obtain ⟨_, h2, _, ⟨h4, h5⟩, ⟨h6, h7⟩, _⟩ := tm t ht
    exact ⟨by omega, by omega, by omega, fun c hc => by have := lo.small c (h5 c hc); omega, fun c hc => by have := lo.small c (h7 c hc); omega⟩
end SWL
set_option Elab.async false
set_option linter.all false
set_option maxRecDepth 100000
set_option maxHeartbeats 16000000
namespace SWL
open PySem PySem.Spec PyProof.Rows L2 LamX
/-! the law -/
section
variable {P : Program} {w : World} {K : PySem.W.Frag} {mg : Str → Option Value} {base : Heap}
theorem ok_law {CN CM CW CS fC f c Pt : Addr} {oc0 kV0 doc0 pm0 ct0 : Value} {an0 od0 : Option Addr} {osl0 : Array (Option Value)} (lk : K.lookup f = some ⟨oc0, od0, .func (PySem.W.fnOf "law" "law" (defArgs sLaw) (defBody sLaw) (defScope sLaw) .none kV0 doc0 pm0 an0 (.ref c) ct0), osl0⟩)
    (hcd : PySem.W.codeIn K (.ref c) "law" = true) (B : Blt mg) (C : Callees P w K mg base CN CM CW) (CK : CaughtK K mg fC) (TB : TabB base mg c Pt)
    (mgN : mg "NoLetters" = some (.ref CN)) (mgM : mg "NoNumber" = some (.ref CM)) (mgW : mg "NoWord" = some (.ref CW)) (mgS : mg "SwingError" = some (.ref CS)) (SN : SeenC K CN CS) (SM : SeenC K CM CS) (SW : SeenC K CW CS) :
    FnG P w K mg base 24 f (PySem.W.fnOf "law" "law" (defArgs sLaw) (defBody sLaw) (defScope sLaw) .none kV0 doc0 pm0 an0 (.ref c) ct0) ["script"] (spLaw K Pt) := by
  refine ⟨fun vs H Q E h => (by obtain ⟨a, ns, rfl, _⟩ := h; rfl), fun A outer s H args us vs Q E gA hr0 e0 hb r h => run_ofS (k := 23) lk hcd scLaw hr0 e0 hb r (by obtain ⟨a, ns, rfl, _⟩ := h; rfl) fun hr => ?_⟩
  obtain ⟨fB, fdB, DB, GB⟩ := C.begun
  obtain ⟨fD, fdD, DD, GD⟩ := C.draw
  obtain ⟨fQ, fdQ, DQ, GQ⟩ := C.pick
  obtain ⟨fO, fdO, DO, GO⟩ := C.odd
  obtain ⟨fP, fdP, DP, GP⟩ := C.pair
  obtain ⟨fG, fdG, DG, GG⟩ := C.plain
  obtain ⟨fI, fdI, DI, GI⟩ := C.is
  obtain ⟨fY, fdY, DY, GY⟩ := C.type
  obtain ⟨fL, fdL, DL, GL⟩ := C.law
  obtain ⟨fA, fdA, DA, KA, GA⟩ := C.bond
  obtain ⟨fZ, fdZ, DZ, GZ⟩ := C.isB
  obtain ⟨oc, kV, doc, pm, cdv, ct, an, od, osl, lkC, cdC, bC⟩ := CK.ex
  have u64 : (A.deeper (envOfC "law" (defScope sLaw) s.heap.objs.size f (.ref c))).units + 64 < cLine := by have := hr.un; omega
  have gX : (A.deeper (envOfC "law" (defScope sLaw) s.heap.objs.size f (.ref c))).guards = some [] := gA
  refine ⟨_, PSs.nox (pss_cons (ps_set (i := 1) scLaw.nd rfl (Or.inl rfl) (pe_call GB (hr.mono (by decide)) (by rfl) DB.g DB.k DB.b .nil pass0 (pa_cons (pv 0) pa_nil)))
      (pss_cons (ps_for PassesOwn.never rfl (pi_range1 (by rfl) B.range (pa_cons (pe_op op_add pe_int (pe_callB (call_min2 rfl) (by rfl) B.min (by decide +kernel) (pa_cons (pe_callB call_len_seq (by rfl) B.len PySem.boot_len (pa_cons (pv 0) pa_nil)) (pa_cons pe_int pa_nil)))) pa_nil)) (pg_name (i := 2) scLaw.nd rfl (Or.inl rfl)) (pss_cons (ps_set (i := 14) scLaw.nd rfl (Or.inr rfl) (pe_call GQ (hr.mono (by decide)) (by rfl) DQ.g DQ.k DQ.b .nil pass0 (pa_cons (pv 1) (pa_cons (pe_lst (pa_cons pe_str (pa_cons pe_str (pa_cons pe_str (pa_cons pe_str (pa_cons pe_str pa_nil)))))) pa_nil))))
      (pss_cons (ps_asg (pe_call GP (hr.mono (by decide)) (by rfl) DP.g DP.k DP.b .nil pass0 (pa_cons (pv 1) (pa_cons (pv 14) (pa_cons pe_int pa_nil)))) (pg_tup rfl (pgs_cons (pg_name (i := 16) scLaw.nd rfl (Or.inr rfl)) (pgs_cons (pg_name (i := 3) scLaw.nd rfl (Or.inl rfl)) pgs_nil))))
      (pss_cons (ps_if (pt_cmpR op_eq (pe_call GD (hr.mono (by decide)) (by rfl) DD.g DD.k DD.b .nil pass0 (pa_cons (pv 1) (pa_cons pe_int pa_nil))) pe_int (nomark _)) (pss_cons (ps_set (i := 4) scLaw.nd rfl (Or.inl rfl) (pe_call GQ (hr.mono (by decide)) (by rfl) DQ.g DQ.k DQ.b .nil pass0 (pa_cons (pv 1) (pa_cons (pe_callTy (cr_listStr rfl) (by rfl) B.list (by decide +kernel) (pa_cons (pv 14) pa_nil)) pa_nil))))
      (pss_one (ps_asg (pe_tup (pa_cons (pe_op op_add_str (pe_op op_add_str (pe_slice sl_str (pv 16) po_none (po_some pe_int)) (pe_op op_mulS (pv 4) (pe_op op_add pe_int (pe_call GD (hr.mono (by decide)) (by rfl) DD.g DD.k DD.b .nil pass0 (pa_cons (pv 1) (pa_cons pe_int pa_nil)))))) (pe_slice sl_str (pv 16) (po_some pe_int) (po_some pe_int))) (pa_cons (pe_op op_add_str (pe_op op_add_str (pe_slice sl_str (pv 16) po_none (po_some pe_int)) (pe_op op_mulS (pv 4) (pe_op op_add pe_int (pe_call GD (hr.mono (by decide)) (by rfl) DD.g DD.k DD.b .nil pass0 (pa_cons (pv 1) (pa_cons pe_int pa_nil)))))) (pe_slice sl_str (pv 16) (po_some pe_int) (po_some pe_int))) pa_nil))) (pg_tup rfl (pgs_cons (pg_name (i := 16) scLaw.nd rfl (Or.inr rfl)) (pgs_cons (pg_name (i := 3) scLaw.nd rfl (Or.inl rfl)) pgs_nil)))))) pss_nil)
      (pss_cons (ps_for PassesOwn.never rfl (pi_range1 (by rfl) B.range (pa_cons pe_int pa_nil)) (pg_name (i := 5) scLaw.nd rfl (Or.inl rfl)) (pss_cons (ps_par (i := 6) (j := 7) rfl scLaw.nd rfl rfl (by decide) rfl rfl (pa_cons (pe_call GA (hr.mono (by decide)) (by rfl) DA.g DA.k DA.b .nil (passE0 rfl rfl) (pa_cons (pv 14) (pa_cons (pv 5) (pa_cons (pv 16) (pa_cons (pv 3) pa_nil))))) (pa_cons pe_dnewT pa_nil)) rfl)
      (pss_cons (ps_set (i := 8) scLaw.nd rfl (Or.inl rfl) (pe_cmpR (op_eqD u64) (pe_call GY (hr.mono (by decide)) (by rfl) DY.g DY.k DY.b .nil pass0 (pa_cons (pv 5) (pa_cons (pv 16) (pa_cons (pv 7) pa_nil)))) (pe_call GY (hr.mono (by decide)) (by rfl) DY.g DY.k DY.b .nil pass0 (pa_cons (pv 5) (pa_cons (pv 3) (pa_cons (pv 7) pa_nil)))) (nomark _)))
      (pss_cons (ps_if (PW.pt (pw_or (pt_cmpR op_ne (pe_cmpR op_notN (pv 6) pe_non (nomark _)) (pv 8) (nomark _)) (pw_or (pt_not (pt_truth (pe_call GG (hr.mono (by decide)) (by rfl) DG.g DG.k DG.b .nil pass0 (pa_cons (pv 6) pa_nil)) (by intro _; rfl))) (pw_or1 (pt_not (pt_truth (pe_callG gX GI (hr.mono (by decide)) (by rfl) DI.g DI.k DI.b (pa_cons (pe_kwCall GA (hr.mono (by decide)) (by rfl) DA.g DA.k KA (passE0 rfl rfl) (pk_cons (pv 3) (pk_cons (pv 16) (pk_cons (pv 5) (pk_cons (pv 14) pk_nil))))) (pa_cons (pv 6) pa_nil))) (by intro _; rfl))))))) (pss_one (ps_ret pe_bl)) pss_nil)
      (pss_cons (ps_set (i := 9) scLaw.nd rfl (Or.inl rfl) (pe_lst (pa_cons (pe_lst pa_nil) (pa_cons (pe_lst (pa_cons (pe_tup (pa_cons (pv 5) (pa_cons (pv 16) (pa_cons (pv 3) pa_nil)))) pa_nil)) (pa_cons pe_non (pa_cons (pe_lst (pa_cons (pe_tup (pa_cons pe_int (pa_cons (pv 16) (pa_cons (pv 3) pa_nil)))) pa_nil)) (pa_cons (pe_lst (pa_cons (pe_tup (pa_cons pe_int (pa_cons (pv 16) (pa_cons (pe_slice sl_str (pv 16) (po_some pe_int) po_none) pa_nil)))) pa_nil)) pa_nil)))))))
      (pss_cons (ps_if (pt_cmpR op_notN (pv 6) pe_non (nomark _)) (pss_cons (ps_if (PW.pt (pw_or (pt_not (pt_truth (pe_callB call_isi (by rfl) B.isi (by decide +kernel) (pa_cons (pv 6) (pa_cons (pe_bltn (u := .type "list") (v := .ty "list") (by rfl) B.list (by decide +kernel) rfl) pa_nil))) (by intro _; rfl))) (pw_or (pt_cmpR (op_neD u64) (pv 6) (pe_callB (cr_sortedD rfl u64) (by rfl) B.sorted (by decide +kernel) (pa_cons (pe_callTy (cr_dictT rfl u64) (by rfl) B.dict (by decide +kernel) (pa_cons (pe_lc (own := [("triple", 18)]) (g := (gName 18)) (tt := tYes) (te := (tTup (tCons (tVar 18) (tCons (tC (.bl true)) tNil)))) rfl scLaw.nd (pi_list (pv 6)) (blkOk_by (N := NL) (sc := defScope sLaw) (by decide +kernel)) (fun _ _ _ _ _ => (pg_name (i := 18) scLaw.nd rfl (Or.inl rfl))) (fun _ _ _ _ _ => pts_nil) (fun _ _ _ _ _ => (pe_tup (pa_cons (pv 18) (pa_cons pe_bl pa_nil))))) pa_nil)) pa_nil)) (nomark _)) (pw_or1 (pt_not (pt_truth (pe_call GL (hr.mono (by decide)) (by rfl) DL.g DL.k DL.b .nil pass0 (pa_cons (pv 14) (pa_cons (pv 5) (pa_cons (pv 16) (pa_cons (pv 3) (pa_cons (pv 6) pa_nil)))))) (by intro _; rfl))))))) (pss_one (ps_ret pe_bl)) pss_nil)
      (pss_cons (ps_set (i := 10) scLaw.nd rfl (Or.inl rfl) (pe_call GD (hr.mono (by decide)) (by rfl) DD.g DD.k DD.b .nil pass0 (pa_cons (pv 1) (pa_cons (pe_op op_add (pe_callB call_len_seq (by rfl) B.len PySem.boot_len (pa_cons (pv 6) pa_nil)) pe_int) pa_nil))))
      (pss_cons (ps_set (i := 9) scLaw.nd rfl (Or.inl rfl) (pe_op op_cat (pv 9) (pe_lst (pa_cons (pv 6) (pa_cons (pe_callTy call_tuple_of (by rfl) B.tuple (by decide +kernel) (pa_cons (pe_revL (pv 6)) pa_nil)) (pa_cons (pe_op op_cat (pe_slice sl_list (pv 6) po_none (po_some (pv 10))) (pe_slice sl_list (pv 6) (po_some (pe_op op_add (pv 10) pe_int)) po_none)) (pa_cons (pe_op op_cat (pv 6) (pe_slice sl_list (pv 6) po_none (po_some pe_int))) (pa_cons (pe_op op_cat (pv 6) (pe_lst (pa_cons (pe_tup (pa_cons pe_int (pa_cons pe_str (pa_cons (pe_ix ix_str (pv 14) pe_int (fun _ _ => rfl)) pa_nil)))) pa_nil))) pa_nil))))))))
      (pss_one (ps_set (i := 9) scLaw.nd rfl (Or.inl rfl) (pe_op op_cat (pv 9) (pe_lst (pa_cons (pe_op op_cat (pv 6) (pe_lst (pa_cons (pe_tup (pa_cons pe_int (pa_cons (pv 16) (pa_cons (pv 16) pa_nil)))) pa_nil))) (pa_cons (pe_op op_cat (pv 6) (pe_lst (pa_cons pe_non pa_nil))) (pa_cons (pe_op op_cat (pv 6) (pe_lst (pa_cons (pe_tup (pa_cons pe_int (pa_cons (pv 16) (pa_cons (pv 3) pa_nil)))) pa_nil))) pa_nil)))))))))) pss_nil)
      (pss_one (ps_for PassesOwn.never rfl (pi_list (pv 9)) (pg_name (i := 11) scLaw.nd rfl (Or.inl rfl)) (pss_cons (ps_set (i := 12) scLaw.nd rfl (Or.inl rfl) (pe_call GL (hr.mono (by decide)) (by rfl) DL.g DL.k DL.b .nil pass0 (pa_cons (pv 14) (pa_cons (pv 5) (pa_cons (pv 16) (pa_cons (pv 3) (pa_cons (pv 11) pa_nil)))))))
      (pss_one (ps_if (PW.pt (pw_or (pt_not (pt_truth (pe_callG gX GI (hr.mono (by decide)) (by rfl) DI.g DI.k DI.b (pa_cons (pe_call GZ (hr.mono (by decide)) (by rfl) DZ.g DZ.k DZ.b .nil (passE0 rfl rfl) (pa_cons (pv 14) (pa_cons (pv 5) (pa_cons (pv 16) (pa_cons (pv 3) (pa_cons (pv 11) pa_nil)))))) (pa_cons (pv 12) pa_nil))) (by intro _; rfl))) (pw_or1 (PW.pt (pw_and (pt_truth (pv 12) (by intro _; rfl)) (pw_and1 (pt_not (pt_truth (pv 8) (by intro _; rfl))))))))) (pss_one (ps_ret pe_bl)) pss_nil)))))))))))
      (pss_cons (ps_asg (pe_tup (pa_cons (pe_call GQ (hr.mono (by decide)) (by rfl) DQ.g DQ.k DQ.b .nil pass0 (pa_cons (pv 1) (pa_cons (pe_lst (pa_cons (pe_un un_neg pe_int) (pa_cons pe_int (pa_cons pe_non (pa_cons pe_bl (pa_cons pe_str pa_nil)))))) pa_nil))) (pa_cons (pe_call GO (hr.mono (by decide)) (by rfl) DO.g DO.k DO.b .nil pass0 (pa_cons (pv 1) (pa_cons (pv 14) pa_nil))) pa_nil))) (pg_tup rfl (pgs_cons (pg_name (i := 15) scLaw.nd rfl (Or.inr rfl)) (pgs_cons (pg_name (i := 17) scLaw.nd rfl (Or.inr rfl)) pgs_nil))))
      (pss_cons (ps_if (pt_not (pt_truth (pe_callB call_isKept (by rfl) B.isi (by decide +kernel) (pa_cons (pe_lamcall (k := 21) (T := [(Pt, qLam)]) (TT := TCaught K CS) (Ng := ["action", "found", "error"]) (t := fun E => tCall (spBond K CN CM CW) [] E (tCons (tC (.str "")) (tCons (tVar 15) (tCons (tVar 17) (tCons (tVar 17) tNil))))) (by rfl) CK.g CK.k lkC cdC bC scCaught rfl (Or.inl rfl) (caught_gives rfl mgS (by decide) rfl rfl (by decide +kernel) (by decide) (by decide) (by decide) (by decide)) TB rfl List.mem_cons_self (fun p hp e => by cases List.mem_singleton.mp hp; rfl) (hr.mono (by decide)) (lamS_by (sc := defScope sLaw) (by decide +kernel)) rfl (fun _ _ _ _ _ => rfl) (fun A outer s H E f c' hr2 => pe_call GA (hr2.mono (by decide)) (by rfl) DA.g DA.k DA.b .nil (passes_call (takes_of rfl rfl rfl rfl) fun _ _ _ _ h => h) (pa_cons pe_str (pa_cons (pv 15) (pa_cons (pv 17) (pa_cons (pv 17) pa_nil)))))) (pa_cons (pe_glob (v := .ref CN) (by rfl) mgN rfl) pa_nil))) (by intro _; rfl))) (pss_one (ps_ret pe_bl)) pss_nil)
      (pss_cons (ps_if (pt_not (pt_truth (pe_callB call_isKept (by rfl) B.isi (by decide +kernel) (pa_cons (pe_lamcall (k := 21) (T := [(Pt, qLam)]) (TT := TCaught K CS) (Ng := ["action", "found", "error"]) (t := fun E => tCall (spIsBond K CN CM CW) [] E (tCons (tVar 14) (tCons (tVar 15) (tCons (tVar 17) (tCons (tVar 17) (tCons (tC .non) tNil)))))) (by rfl) CK.g CK.k lkC cdC bC scCaught rfl (Or.inl rfl) (caught_gives rfl mgS (by decide) rfl rfl (by decide +kernel) (by decide) (by decide) (by decide) (by decide)) TB rfl List.mem_cons_self (fun p hp e => by cases List.mem_singleton.mp hp; rfl) (hr.mono (by decide)) (lamS_by (sc := defScope sLaw) (by decide +kernel)) rfl (fun _ _ _ _ _ => rfl) (fun A outer s H E f c' hr2 => pe_call GZ (hr2.mono (by decide)) (by rfl) DZ.g DZ.k DZ.b .nil (passes_call (takes_of rfl rfl rfl rfl) fun _ _ _ _ h => h) (pa_cons (pv 14) (pa_cons (pv 15) (pa_cons (pv 17) (pa_cons (pv 17) (pa_cons pe_non pa_nil))))))) (pa_cons (pe_glob (v := .ref CM) (by rfl) mgM rfl) pa_nil))) (by intro _; rfl))) (pss_one (ps_ret pe_bl)) pss_nil)
      (pss_one (ps_for PassesOwn.never rfl (pi_list (pe_lst (pa_cons (pv 17) (pa_cons (pe_op op_mulS (pe_ix ix_str (pv 14) pe_int (fun _ _ => rfl)) pe_int) pa_nil)))) (pg_name (i := 13) scLaw.nd rfl (Or.inr rfl)) (pss_cons (ps_if (pt_not (pt_truth (pe_callB call_isKept (by rfl) B.isi (by decide +kernel) (pa_cons (pe_lamcall (k := 21) (T := [(Pt, qLam)]) (TT := TCaught K CS) (Ng := ["action", "found", "error"]) (t := fun E => tCall (spBond K CN CM CW) [] E (tCons (tVar 14) (tCons (tC (.int 2)) (tCons (tVar 13) (tCons (tC .non) tNil))))) (by rfl) CK.g CK.k lkC cdC bC scCaught rfl (Or.inl rfl) (caught_gives rfl mgS (by decide) rfl rfl (by decide +kernel) (by decide) (by decide) (by decide) (by decide)) TB rfl List.mem_cons_self (fun p hp e => by cases List.mem_singleton.mp hp; rfl) (hr.mono (by decide)) (lamS_by (sc := defScope sLaw) (by decide +kernel)) rfl (fun _ _ _ _ _ => rfl) (fun A outer s H E f c' hr2 => pe_call GA (hr2.mono (by decide)) (by rfl) DA.g DA.k DA.b .nil (passes_call (takes_of rfl rfl rfl rfl) fun _ _ _ _ h => h) (pa_cons (pv 14) (pa_cons pe_int (pa_cons (pv 13) (pa_cons pe_non pa_nil)))))) (pa_cons (pe_glob (v := .ref CW) (by rfl) mgW rfl) pa_nil))) (by intro _; rfl))) (pss_one (ps_ret pe_bl)) pss_nil)
      (pss_one (ps_if (pt_not (pt_truth (pe_callB call_isKept (by rfl) B.isi (by decide +kernel) (pa_cons (pe_lamcall (k := 21) (T := [(Pt, qLam)]) (TT := TCaught K CS) (Ng := ["action", "found", "error"]) (t := fun E => tCall (spIsBond K CN CM CW) [] E (tCons (tVar 14) (tCons (tC (.int 0)) (tCons (tVar 16) (tCons (tVar 13) (tCons (tLst tNil) tNil)))))) (by rfl) CK.g CK.k lkC cdC bC scCaught rfl (Or.inl rfl) (caught_gives rfl mgS (by decide) rfl rfl (by decide +kernel) (by decide) (by decide) (by decide) (by decide)) TB rfl List.mem_cons_self (fun p hp e => by cases List.mem_singleton.mp hp; rfl) (hr.mono (by decide)) (lamS_by (sc := defScope sLaw) (by decide +kernel)) rfl (fun _ _ _ _ _ => rfl) (fun A outer s H E f c' hr2 => pe_call GZ (hr2.mono (by decide)) (by rfl) DZ.g DZ.k DZ.b .nil (passes_call (takes_of rfl rfl rfl rfl) fun _ _ _ _ h => h) (pa_cons (pv 14) (pa_cons pe_int (pa_cons (pv 16) (pa_cons (pv 13) (pa_cons (pe_lst pa_nil) pa_nil))))))) (pa_cons (pe_glob (v := .ref CW) (by rfl) mgW rfl) pa_nil))) (by intro _; rfl))) (pss_one (ps_ret pe_bl)) pss_nil)))))))))))))
      (pss_one (ps_ret (pe_and (pe_cmpR op_notN (pe_call GA (hr.mono (by decide)) (by rfl) DA.g DA.k DA.b .nil (passE0 rfl rfl) (pa_cons pe_str (pa_cons pe_int (pa_cons pe_str (pa_cons pe_str pa_nil))))) pe_non (nomark _)) (pe_one (pe_cmpR op_isN (pe_call GA (hr.mono (by decide)) (by rfl) DA.g DA.k DA.b .nil (passE0 rfl rfl) (pa_cons pe_str (pa_cons pe_int (pa_cons pe_str (pa_cons pe_str pa_nil))))) pe_non (nomark _)))))))), ?_⟩
  have sz : sizeLine = 16777216 := sizeLine_eq
  obtain ⟨a0, ns, rfl, hS, hn, hP, q⟩ := h
  refine ⟨_, rfl, a0, ns, rfl, hS, by omega, fun H1 a g cA cs g1 s1 na ng => ?_⟩
  have L1 : LS H1 a g cA cs 0 Pt := ⟨s1, fun p hp => by cases List.mem_singleton.mp hp; exact TabS.nil (g1 _ _ hP)⟩
  refine ⟨_, rfl, a0, ns.map V.int, rfl, .inl (g1.l hS), _, _, rfl, _, _, rfl, rfl, _, rfl, by split <;> omega, by split <;> omega, ?_⟩
  refine for_it walk_range (fun i σ H' => (∃ v2 v3 v4 v5 v6 v7 v8 v9 v10 v11 v12 v13 v14 v15 v16 v17 v18 : Option V, σ = [some (.ref a0), some (.ref a), v2, v3, v4, v5, v6, v7, v8, v9, v10, v11, v12, v13, v14, v15, v16, v17, v18]) ∧ LS H' a g cA cs (1000 * i) Pt)
    ⟨⟨_, _, _, _, _, _, _, _, _, _, _, _, _, _, _, _, _, rfl⟩, L1⟩ (fun _ _ _ _ _ => trivial) ?_ ?_
  · rintro i x σ H2 H3 hi ⟨⟨v2, v3, v4, v5, v6, v7, v8, v9, v10, v11, v12, v13, v14, v15, v16, v17, v18, rfl⟩, L⟩ ⟨rfl, rfl⟩
    have hi7 : i < 7 := by
      have : (2 + if (4 : Int) < ((ns.map V.int).length : Int) then 4 else ((ns.map V.int).length : Int)).toNat ≤ 7 := by split <;> omega
      omega
    -- letters
    refine ⟨_, rfl, by show 5 ≤ sizeLine; decide, fun p np => ?_⟩
    have gp : Grows H3 (upd H3 p (.lst (lettersL.map V.str))) := Grows.new np
    refine ⟨a, g, cA, p, cs, 1000 * i, lettersL.map V.str, rfl, (L.grows gp).sat, by omega, upd_same, L.offG np, by decide, by decide, fun H4 x hx s4 b4 => ?_⟩
    obtain ⟨ls, hls, rfl⟩ := List.mem_map.mp hx
    have lo := lot_of hls
    have L4 := (L.grows gp).but b4 s4
    have hl3 := lo.len
    have hl0 := lo.pos
    have hlsz : ls.length ≤ sizeLine := by omega
    clear s4 b4 hx L gp
    -- one, other
    refine ⟨_, rfl, _, rfl, a, g, cA, cs, 1000 * i + 1, 7, ls, rfl, hl0, by omega, by omega, L4.sat, by omega, fun H6 t one other o1 o2 l1 l2 kt s6 b6 => ?_⟩
    have L6 := (L4.but b6 s6).mono (show 1000 * i + 1 + 300 ≤ 1000 * i + 310 by omega)
    refine ⟨t, _, rfl, .inl (.inl kt), rfl, _, _, rfl, _, _, rfl, rfl, ?_⟩
    clear s6 b6 kt L4
    -- longer
    dsimp only [gName, tNext, tSeq]
    refine (?_ : tIfS _ _ _ ?D _ _)
    have rest : ∀ (v4 : Option V) (one other : Str) (H' : Hp), Of ls one → Of ls other → one.length ≤ 9 → other.length ≤ 9 → LS H' a g cA cs (1000 * i + 320) Pt → Ends.nx ?D [some (.ref a0), some (.ref a), some (.int (0 + (i : Int))), some (.str other), v4, v5, v6, v7, v8, v9, v10, v11, v12, v13, some (.str ls), v15, some (.str one), v17, v18] H' := fun v4 one other H7 o1 o2 l1 l2 L7 => ?_
    · refine ⟨_, rfl, a, g, cA, cs, 1000 * i + 310, 2, rfl, L6.sat, by omega, by decide, by decide, fun H7 kd kd0 kd1 s7 b7 => ⟨rfl, _, rfl, ?_⟩⟩
      have L7 := L6.but b7 s7
      by_cases hk : kd = 0
      case neg =>
        exact if_neg_of (by rw [decide_eq_false (fun e => hk (V.int.inj e))]; decide) (rest _ one other H7 o1 o2 (by omega) (by omega) (L7.mono (by omega)))
      refine if_pos_of (decide_eq_true (by rw [hk])) ?_
      refine ⟨_, rfl, _, rfl, ls, rfl, by omega, fun p np => ?_⟩
      have gp : Grows H7 (upd H7 p (.lst (signsV ls))) := Grows.new np
      refine ⟨a, g, cA, p, cs, 1000 * i + 310 + 1, signsV ls, rfl, (L7.grows gp).sat, by omega, upd_same, L7.offG np, (fun z => by rw [← List.length_eq_zero_iff, signs_len] at z; omega), by rw [signs_len]; omega, fun H8 y hy s8 b8 => ?_⟩
      obtain ⟨d, hd, rfl⟩ := signs_mem hy
      have L8 := (L7.grows gp).but b8 s8
      clear s8 b8 hy gp L7 L6
      dsimp only [gName, tSeq, tAsg, tTup, tCons, tNext]
      refine long_go (ls := ls) (one := one) (g := g) (cA := cA) (cs := cs) (n := 1000 * i + 310 + 1 + 1) (d := d) rfl rfl rfl o1 (by omega) hd L8.sat (by omega) fun H9 z1 oz1 lz1 s9 b9 => ?_
      have L9 := L8.but b9 s9
      refine long_go (ls := ls) (one := one) (g := g) (cA := cA) (cs := cs) (n := 1000 * i + 310 + 1 + 1 + 1) (d := d) rfl rfl rfl o1 (by omega) hd L9.sat (by omega) fun H10 z2 oz2 lz2 s10 b10 => ?_
      have L10 := L9.but b10 s10
      refine ⟨by show 2 ≤ sizeLine; decide, fun tp ntp => ?_⟩
      have gt := Grows.new (o := .tup [.str z1, .str z2]) ntp
      refine ⟨tp, _, rfl, .inl (.inl upd_same), rfl, _, _, rfl, _, _, rfl, rfl, ?_⟩
      exact rest _ z1 z2 _ oz1 oz2 lz1 lz2 ((L10.grows gt).mono (by omega))
    obtain ⟨U, cU, lU, u1, u2⟩ := two_facts (z1 := one) (z2 := other) (by omega) (by omega)
    have chars : ∀ {z : Str}, Of ls z → ∀ c ∈ z.cps.toList, c < 0x110000 := fun o c hc => by have := lo.small c (o c hc); omega
    have so : sW one.cps.toList = one := (sW_eq rfl).symm
    have st : sW other.cps.toList = other := (sW_eq rfl).symm
    have lls : ls.length ≤ 1000 := by omega
    have k0 : 0 < ls.cps.toList.length := by rw [cut_len]; exact hl0
    obtain ⟨ch, hch0⟩ : ∃ c, ls.cps.toList[0]? = some c := ⟨_, List.getElem?_eq_getElem k0⟩
    have hch : ch ∈ ls.cps.toList := List.mem_of_getElem? hch0
    -- n
    refine ⟨_, rfl, by decide, by decide, for_it walk_range (fun j σ H' => (∃ w5 w6 w7 w8 w9 w10 w11 w12 : Option V, σ = [some (.ref a0), some (.ref a), some (.int (0 + (i : Int))), some (.str other), v4, w5, w6, w7, w8, w9, w10, w11, w12, v13, some (.str ls), v15, some (.str one), v17, v18]) ∧ LS H' a g cA cs (1000 * i + 320 + j) Pt)
      ⟨⟨_, _, _, _, _, _, _, _, rfl⟩, L7⟩ (fun _ _ _ _ _ => trivial) ?_ ?_⟩
    · rintro n y σ H8 H8' hj ⟨⟨w5, w6, w7, w8, w9, w10, w11, w12, rfl⟩, L8⟩ ⟨rfl, rfl⟩
      have hn : n < 4 := hj
      have n0 : ((0 : Int) + (n : Int)) = ((n : Nat) : Int) := by omega
      show gName 5 (.int ((0 : Int) + (n : Int))) _ _ _
      rw [n0]
      have obond := fun (H : Hp) (Q : VK) (E : XK) (q : ∀ H' fv, Grows H H' → FV H H' fv n one.cps.toList other.cps.toList → Q fv H') => go_bond (K := K) (CN := CN) (CM := CM) (CW := CW) (E := E) hlsz lo.ok (show n ≤ 4 by omega) o1 (by omega) o2 (by omega) q
      -- the loop over what is given
      refine ⟨_, rfl, _, rfl, _, rfl, _, rfl, ?_⟩
      dsimp only [tNil]
      refine obond _ _ _ fun H9 fv g9 hfv => ?_
      refine fun k nk => ⟨_, _, rfl, ?_⟩
      have gk : Grows H9 (upd H9 k (.dT [])) := Grows.new nk
      have tk : KnT U (upd H9 k (.dT [])) k [] := knT_new
      have L9 := (L8.grows g9).grows gk
      -- found: it stays
      have hF : (fv = .non ∧ ¬ Same n one.cps.toList other.cps.toList) ∨ ∃ (p : Addr) (xs : List V) (ts : List Tp), fv = .ref p ∧ FAt ls g (upd H9 k (.dT [])) p xs ts ∧ (∀ t, t ∈ ts ↔ t ∈ treeN n one.cps.toList other.cps.toList) ∧ Same n one.cps.toList other.cps.toList := by
        rcases hfv with h | ⟨p, xs, ts, e, np, kp, pr, pw, mem, hs⟩
        · exact .inl h
        · exact .inr ⟨p, xs, ts, e, (fat_of lo (by omega) o1 l1 o2 l2 kp (L8.offG np) pr pw mem hs).grows gk, mem, hs⟩
      clear hfv
      generalize upd H9 k (.dT []) = H10 at gk tk L9 hF ⊢
      clear gk g9 L8
      have kk := tk.at_
      -- same
      refine ⟨_, rfl, _, rfl, _, rfl, ?_⟩
      dsimp only [tNil]
      refine go_own (show n ≤ 3 by omega) tk (by omega) u1 cU lU fun H11 T11 d11 t11 b11 nk11 => ⟨_, rfl, _, rfl, _, rfl, ?_⟩
      dsimp only [tNil]
      refine go_own (show n ≤ 3 by omega) t11 (by omega) u2 cU lU fun H12 T12 d12 t12 b12 nk12 => ?_
      refine ⟨_, _, nk_dp _ (NkAt.keep (t11.tups b12) _ nk11), nk_dp _ nk12, shaped_ty (by omega) (chars o1), shaped_ty (by omega) (chars o2), ?_⟩
      rw [eqv_same]
      have b02 : But H10 H12 k k := b11.trans b12
      have L12 := L9.butK kk b02
      have hF : (fv = .non ∧ ¬ Same n one.cps.toList other.cps.toList) ∨ ∃ (p : Addr) (xs : List V) (ts : List Tp), fv = .ref p ∧ FAt ls g H12 p xs ts ∧ (∀ t, t ∈ ts ↔ t ∈ treeN n one.cps.toList other.cps.toList) ∧ Same n one.cps.toList other.cps.toList :=
        hF.imp id fun ⟨p, xs, ts, e, f, m, hs⟩ => ⟨p, xs, ts, e, f.butK kk b02, m, hs⟩
      clear b11 b12 b02 t11 t12 nk11 nk12 L9 tk nk
      have hT : ∀ m : Nat, tupP (m, one.cps.toList, other.cps.toList) = [.int ((m : Nat) : Int), .str one, .str other] := fun m => by
        unfold tupP
        rw [so, st]
      have okw1 : okWord ls (sW one.cps.toList) 12 = true := by rw [so]; exact okW_of (m := 12) o1 (by omega)
      have okw2 : okWord ls (sW other.cps.toList) 12 = true := by rw [st]; exact okW_of (m := 12) o2 (by omega)
      have notG : ∀ {H' : Hp} {b : Addr}, Grows H12 H' → H' b = none → b ≠ g := fun g' nb => (L12.grows g').offG nb
      -- a bond is told just if they are alike, plain, and so again
      dsimp only [gName, tNext, tSeq, tAsg]
      refine (?_ : tIfS _ _ _ ?D1 _ _)
      have rest1 : ∀ H', Grows H12 H' → Ends.nx ?D1 [some (.ref a0), some (.ref a), some (.int (0 + (i : Int))), some (.str other), v4, some (.int ((n : Nat) : Int)), some fv, some (.ref k), some (.bl (sameB n one.cps.toList other.cps.toList)), w9, w10, w11, w12, v13, some (.str ls), v15, some (.str one), v17, v18] H' := fun H13 g13 => ?_
      · rcases hF with ⟨rfl, hs⟩ | ⟨p, xs, ts, rfl, F, mem, hs⟩
        · have e := sameB_not.mpr hs
          refine ⟨_, rfl, rfl, _, rfl, rfl, _, rfl, if_neg_of (by rw [e]; decide) ?_⟩
          refine ⟨_, rfl, .non, .none, rfl, .non, by decide, fun H13 g13 => ⟨true, rfl, if_neg_of (by decide) ?_⟩⟩
          refine ⟨_, rfl, _, rfl, _, rfl, _, rfl, ?_⟩
          dsimp only [tNil, pk_nil]
          refine obond _ _ _ fun H14 f2 g14 hf2 => ?_
          obtain ⟨rfl, _⟩ : f2 = .non ∧ True := by
            rcases hf2 with h | ⟨_, _, _, _, _, _, _, _, _, h⟩
            · exact ⟨h.1, trivial⟩
            · exact absurd h hs
          refine ⟨_, rfl, .non, .non, .none, rfl, .non, .non, ⟨by decide +kernel, by decide +kernel, by decide +kernel, by decide +kernel, by decide +kernel⟩, by decide, fun H15 g15 => ⟨true, rfl, if_neg_of (by decide) (rest1 H15 ((g13.trans g14).trans g15))⟩⟩
        · have e := sameB_iff.mpr hs
          have dd : PyData.depth (.list (ts.map tpD)) < 8 := by have := depth_tps ts; omega
          refine ⟨_, rfl, rfl, _, rfl, rfl, _, rfl, if_neg_of (by rw [e, decide_eq_false (show ¬ (V.ref p = V.non) by intro z; cases z)]; decide) ?_⟩
          refine ⟨_, rfl, .ref p, _, rfl, F.dp, dd, fun H13 g13 => ⟨true, rfl, if_neg_of (by decide) ?_⟩⟩
          refine ⟨_, rfl, _, rfl, _, rfl, _, rfl, ?_⟩
          dsimp only [tNil, pk_nil]
          refine obond _ _ _ fun H14 f2 g14 hf2 => ?_
          obtain ⟨p2, xs2, ts2, rfl, _, kp2, pr2, pw2, mem2, _⟩ := hf2.resolve_left fun h => h.2 hs
          obtain rfl : ts2 = ts := sorted_one F.pw pw2 mem mem2
          have F14 := (F.grows g13).grows g14
          refine ⟨_, rfl, .ref p2, .ref p, _, rfl, .lst (.inl (.inl kp2)) (tps_dp pr2), F14.dp, good_tps F.oktp (by have := F.few; omega), dd, fun H15 g15 => ⟨true, rfl, if_neg_of (by decide) (rest1 H15 ((g13.trans g14).trans g15))⟩⟩
      -- some
      refine ⟨by show 0 ≤ sizeLine; decide, fun pa na => ?_⟩
      have ga : Grows H13 (upd H13 pa (.lst [])) := Grows.new na
      have va : GvAt ls g (upd H13 pa (.lst [])) (.ref pa) (some (([] : List Tp).map some)) := gv_of (.inl upd_same) (notG g13 na) .nil (fun t ht => by cases ht) (by show 0 ≤ 1000000; decide)
      generalize upd H13 pa (.lst []) = H14 at ga va ⊢
      have g14 := g13.trans ga
      dsimp only [tCons]
      refine one_go (t := (n, one.cps.toList, other.cps.toList)) (fun R r => ⟨_, rfl, _, rfl, _, rfl, by rw [hT] at r; exact r⟩) fun H15 pb bb gb nb kb tb => ?_
      have vb : GvAt ls g H15 (.ref pb) (some ([(n, one.cps.toList, other.cps.toList)].map some)) := gv_of (.inl kb) (notG g14 nb) tb (fun t ht => by rw [List.mem_singleton.mp ht]; exact ⟨by show n ≤ 4; omega, okw1, okw2⟩) (by show 1 ≤ 1000000; decide)
      have g15 := g14.trans gb
      dsimp only [tC]
      refine one_go (t := (1, one.cps.toList, other.cps.toList)) (fun R r => ⟨_, rfl, _, rfl, by rw [hT] at r; exact r⟩) fun H16 pc bc gc nc kc tc => ?_
      have vc : GvAt ls g H16 (.ref pc) (some ([(1, one.cps.toList, other.cps.toList)].map some)) := gv_of (.inl kc) (notG g15 nc) tc (fun t ht => by rw [List.mem_singleton.mp ht]; exact ⟨by show 1 ≤ 4; omega, okw1, okw2⟩) (by show 1 ≤ 1000000; decide)
      have g16 := g15.trans gc
      refine one_go (t := (2, one.cps.toList, one.cps.toList.drop 1)) (fun R r => ?_) fun H17 pd bd gd nd kd td => ?_
      · refine ⟨_, rfl, _, rfl, _, rfl, ?_⟩
        dsimp only [tNoPart]
        refine ⟨one, rfl, by omega, ?_⟩
        have e1 : cutS one (some 1) none = sW (one.cps.toList.drop 1) := sW_eq (cut_from one 1)
        rw [e1]
        have r : R [.int ((2 : Nat) : Int), .str (sW one.cps.toList), .str (sW (one.cps.toList.drop 1))] H16 := r
        rw [so] at r
        exact r
      have vd : GvAt ls g H17 (.ref pd) (some ([(2, one.cps.toList, one.cps.toList.drop 1)].map some)) := gv_of (.inl kd) (notG g16 nd) td (fun t ht => by rw [List.mem_singleton.mp ht]; exact ⟨by show 2 ≤ 4; omega, okw1, okW_sW (fun c hc => o1 c (List.mem_of_mem_drop hc)) (by rw [List.length_drop, cut_len]; omega)⟩) (by show 1 ≤ 1000000; decide)
      have g17 := g16.trans gd
      refine ⟨by show 5 ≤ sizeLine; decide, fun sp nsp => ?_⟩
      have ge : Grows H17 (upd H17 sp (.lst [.ref pa, .ref pb, .non, .ref pc, .ref pd])) := Grows.new nsp
      have ks : upd H17 sp (.lst [.ref pa, .ref pb, .non, .ref pc, .ref pd]) sp = some (.lst [.ref pa, .ref pb, .non, .ref pc, .ref pd]) := upd_same
      have ngs := notG g17 nsp
      have GV : GvsAt ls g (upd H17 sp (.lst [.ref pa, .ref pb, .non, .ref pc, .ref pd])) [.ref pa, .ref pb, .non, .ref pc, .ref pd] [some (([] : List Tp).map some), some ([(n, one.cps.toList, other.cps.toList)].map some), none, some ([(1, one.cps.toList, other.cps.toList)].map some), some ([(2, one.cps.toList, one.cps.toList.drop 1)].map some)] :=
        .cons ((((va.grows gb).grows gc).grows gd).grows ge) (.cons (((vb.grows gc).grows gd).grows ge) (.cons rfl (.cons ((vc.grows gd).grows ge) (.cons (vd.grows ge) .nil))))
      generalize upd H17 sp (.lst [.ref pa, .ref pb, .non, .ref pc, .ref pd]) = H18 at ge ks GV ⊢
      have g18 := g17.trans ge
      generalize [some (([] : List Tp).map some), some ([(n, one.cps.toList, other.cps.toList)].map some), none, some ([(1, one.cps.toList, other.cps.toList)].map some), some ([(2, one.cps.toList, one.cps.toList.drop 1)].map some)] = os at GV
      have lvs : ([V.ref pa, .ref pb, .non, .ref pc, .ref pd] : List V).length ≤ 5 := by simp
      generalize ([V.ref pa, .ref pb, .non, .ref pc, .ref pd] : List V) = vs at ks GV lvs
      have L18 := L12.grows g18
      have hF : (fv = .non ∧ ¬ Same n one.cps.toList other.cps.toList) ∨ ∃ (p : Addr) (xs : List V) (ts : List Tp), fv = .ref p ∧ FAt ls g H18 p xs ts ∧ (∀ t, t ∈ ts ↔ t ∈ treeN n one.cps.toList other.cps.toList) ∧ Same n one.cps.toList other.cps.toList :=
        hF.imp id fun ⟨p, xs, ts, e, f, m, hs⟩ => ⟨p, xs, ts, e, f.grows g18, m, hs⟩
      clear va vb vc vd ga gb gc gd ge g13 g14 g15 g16 g17 g18 notG L12 na nb nc nd nsp kb kc kd tb tc td kk
      -- more of them
      dsimp only [gName, tNext, tSeq, tAsg]
      refine (?_ : tIfS _ _ _ ?D2 _ _)
      have rest2 : ∀ (w10 : Option V) (sp : Addr) (vs : List V) (os : List (Option (List (Option Tp)))) (H' : Hp), H' sp = some (.lst vs) → GvsAt ls g H' vs os → sp ≠ g → LS H' a g cA cs (1000 * i + 320 + (n + 1)) Pt → Ends.nx ?D2 [some (.ref a0), some (.ref a), some (.int (0 + (i : Int))), some (.str other), v4, some (.int ((n : Nat) : Int)), some fv, some (.ref k), some (.bl (sameB n one.cps.toList other.cps.toList)), some (.ref sp), w10, w11, w12, v13, some (.str ls), v15, some (.str one), v17, v18] H' := fun w10 sp vs os H19 ks GV ngs L19 => ?_
      · rcases hF with ⟨rfl, hs⟩ | ⟨p, xs, ts, rfl, F, mem, hs⟩
        · exact ⟨_, rfl, rfl, _, rfl, if_neg_of (by decide) (rest2 _ _ _ _ H18 ks GV ngs (L18.mono (by omega)))⟩
        refine ⟨_, rfl, rfl, _, rfl, if_pos_of rfl ?_⟩
        refine ⟨_, rfl, .ref p, .ty "list", .type "list", .type "list", true, rfl, .ty "list", ty_list (.inl (.inl F.at_)), kit_ty (by decide +kernel), true, rfl, if_neg_of (by decide) ?_⟩
        -- sorted, each once
        refine ⟨_, rfl, _, rfl, p, rfl, ⟨_, .inl (.inl F.at_)⟩, fun D nD => ?_⟩
        refine lc_it (walk_list (K := K) (a := p) (xs := xs)) (fun k H' => Grows H18 H' ∧ ∃ ps : List PairIn, H' D = some (.lst (ps.map fun p => .ref p.at_)) ∧ (∀ p ∈ ps, p.ok H') ∧ ps.map (·.key) = (ts.take k).map kP ∧ ∀ p ∈ ps, p.val = .bl true) ⟨Grows.new nD, [], upd_same, (fun p hp => by cases hp), rfl, fun p hp => by cases hp⟩ (fun _ H' _ q => .inl (.inl (q.1 _ _ F.at_))) ?_ ?_
        · rintro r x H3 H4 hr' ⟨g3, ps, kD, pok, pk, pv⟩ ⟨rfl, hx⟩
          obtain ⟨t, ht, b, rfl, kb⟩ := paired_idx F.pr hx
          refine ⟨rfl, _, rfl, by show 2 ≤ sizeLine; omega, fun t3 nt3 => ?_⟩
          have g4 : Grows H4 (upd H4 t3 (.tup [.ref b, .bl true])) := Grows.new nt3
          have k4 : upd H4 t3 (.tup [.ref b, .bl true]) t3 = some (.tup [.ref b, .bl true]) := upd_same
          generalize upd H4 t3 (.tup [.ref b, .bl true]) = H5 at g4 k4 ⊢
          have kD5 := g4 _ _ kD
          have off : ∀ c zs, H5 c = some (.tup zs) → upd H5 D (.lst (ps.map (fun p => V.ref p.at_) ++ [.ref t3])) c = some (.tup zs) := fun c zs z => by
            rw [upd_ne (ne_of z kD5 (by intro z; cases z))]
            exact z
          have lp : ps.length ≤ 1333 := by
            have := congrArg List.length pk
            rw [List.length_map, List.length_map, List.length_take] at this
            have := F.few
            omega
          refine ⟨_, kD5, by rw [List.length_map]; omega, fun c o e => ?_, ps ++ [⟨t3, b, kP t, .bl true⟩], ?_, fun p hp => ?_, ?_, fun p hp => ?_⟩
          · rw [upd_ne (ne_of_none e nD)]
            exact g4 _ _ (g3 _ _ e)
          · rw [upd_same, List.map_append]
            rfl
          · rcases List.mem_append.mp hp with h | h
            · obtain ⟨a1, a2⟩ := pok p h
              exact ⟨off _ _ (g4 _ _ a1), off _ _ (g4 _ _ a2)⟩
            · rw [List.mem_singleton.mp h]
              exact ⟨off _ _ k4, off _ _ (g4 _ _ (g3 _ _ kb))⟩
          · rw [take_snoc ht, List.map_append, List.map_append, pk]
            rfl
          · rcases List.mem_append.mp hp with h | h
            · exact pv p h
            · rw [List.mem_singleton.mp h]
        rintro H19 ⟨g19, ps, kD, pok, pk, pv⟩
        rw [Paired.length F.pr, List.take_length] at pk
        refine ⟨D, ps, rfl, kD, pok, fun Dk nDk => ?_⟩
        have gD : Grows H19 (upd H19 Dk (.dT (putAll [] ps))) := Grows.new nDk
        have kDk : upd H19 Dk (.dT (putAll [] ps)) Dk = some (.dT (rowsT (firstsP ts) (.bl true))) := by
          rw [upd_same]
          have := putAll_rows (.bl true) ps [] ts pk pv
          rw [show putAll [] ps = rowsT (ts.foldl oneP []) (.bl true) from this]
          rfl
        generalize upd H19 Dk (.dT (putAll [] ps)) = H20 at gD kDk ⊢
        refine ⟨Dk, rowsT (firstsP ts) (.bl true), rfl, kDk, by rw [rowsT_keys]; exact alikeP _, fun y hy => ?_, fun qs hq eq p2 np2 => ?_⟩
        · obtain ⟨t, _, rfl⟩ := List.mem_map.mp hy
          exact kP_ne t
        rw [rowsT_keys] at eq
        have gp2 : Grows H20 (upd H20 p2 (.lst (qs.map fun q => .ref q.1))) := Grows.new np2
        obtain ⟨us, e1, e2⟩ := tps_of (l := firstsP ts) hq fun q hq' => by
          have : q.2 ∈ qs.map (·.2) := List.mem_map.mpr ⟨q, hq', rfl⟩
          rw [eq] at this
          exact (List.mergeSort_perm _ _).mem_iff.mp this
        obtain rfl : us = ts := sort_same F.pw (by rw [e1, eq])
        have e2 := e2.keep fun c zs z => gp2 _ _ z
        have kp2 : upd H20 p2 (.lst (qs.map fun q => .ref q.1)) p2 = some (.lst (qs.map fun q => .ref q.1)) := upd_same
        generalize upd H20 p2 (.lst (qs.map fun q => .ref q.1)) = H21 at gp2 kp2 e2 ⊢
        have g21 := (g19.trans gD).trans gp2
        have F := F.grows g21
        have L := L18.grows g21
        have ks := g21 _ _ ks
        have GV : GvsAt ls g H21 vs os := Paired.mapP GV fun _ _ h => h.grows g21
        refine ⟨_, _, F.dp, .lst (.inl (.inl kp2)) (tps_dp e2), shaped_tps F.oktp, shaped_tps F.oktp, _, rfl, if_neg_of (by rw [eqv_tps F.oktp]; decide) ?_⟩
        clear g19 gD gp2 kDk kD pok pk pv g21 hq eq e1 e2 kp2 L18 nD nDk np2
        -- the law's own
        have eg : giveB (some (us.map some)) (n, one.cps.toList, other.cps.toList) = true := by
          show bondB _ _ = true
          rw [bondB_some _ _ F.pos]
          exact tree_isB hs mem
        refine ⟨_, rfl, _, rfl, _, rfl, _, rfl, _, rfl, ls, n, one.cps.toList, other.cps.toList, .ref p, some (us.map some), by rw [so, st]; rfl, lls, F.gv.give, fun H22 g22 => ?_⟩
        rw [eg]
        refine ⟨true, rfl, if_neg_of (by decide) ?_⟩
        have F := F.grows g22
        have L := L.grows g22
        have ks := g22 _ _ ks
        have GV : GvsAt ls g H22 vs os := Paired.mapP GV fun _ _ h => h.grows g22
        -- at
        have lx := F.lx
        refine ⟨_, rfl, _, rfl, p, xs, rfl, .inl (.inl (.inl F.at_)), _, _, rfl, rfl, a, g, cA, cs, 1000 * i + 320 + n, _, rfl, L.sat, by omega, by omega, by omega, fun H23 ka ka0 ka1 s23 b23 => ?_⟩
        obtain ⟨at_, rfl⟩ : ∃ j : Nat, ka = j := ⟨ka.toNat, by omega⟩
        have F := F.but L b23
        have GV : GvsAt ls g H23 vs os := Paired.mapP GV fun _ _ h => h.but L b23
        have ks := b23 _ _ ks (L.offA ks) ngs
        have L := (L.but b23 s23).mono (show 1000 * i + 320 + n + 1 ≤ 1000 * i + 320 + (n + 1) by omega)
        clear b23 s23 g22 eg
        generalize us = ts at F mem
        have lx := F.lx
        have ok1 : OkTs ls ts := F.ok
        refine ⟨_, rfl, _, rfl, _, rfl, p, xs, rfl, .inl (.inl F.at_), fun pr npr => ?_⟩
        have gs : Grows H23 (upd H23 pr (.lst xs.reverse)) := Grows.new npr
        have kpr : upd H23 pr (.lst xs.reverse) pr = some (.lst xs.reverse) := upd_same
        have ngpr := (L.offG npr)
        generalize upd H23 pr (.lst xs.reverse) = H24 at gs kpr ⊢
        have F := F.grows gs
        have L := L.grows gs
        have ks := gs _ _ ks
        have GV : GvsAt ls g H24 vs os := Paired.mapP GV fun _ _ h => h.grows gs
        refine ⟨pr, xs.reverse, rfl, .inl ⟨.inl (.inl kpr), fun pt npt => ?_⟩⟩
        have gs : Grows H24 (upd H24 pt (.tup xs.reverse)) := Grows.new npt
        have kpt : upd H24 pt (.tup xs.reverse) pt = some (.tup xs.reverse) := upd_same
        have ngpt := (L.offG npt)
        generalize upd H24 pt (.tup xs.reverse) = H25 at gs kpt ⊢
        have F := F.grows gs
        have L := L.grows gs
        have ks := gs _ _ ks
        have GV : GvsAt ls g H25 vs os := Paired.mapP GV fun _ _ h => h.grows gs
        have kpr := gs _ _ kpr
        have v2 : GvAt ls g H25 (.ref pt) (some (ts.reverse.map some)) := gv_of (.inr kpt) ngpt (tps_rev F.pr) (fun t ht => ok1 t (List.mem_reverse.mp ht)) (by rw [List.length_reverse]; omega)
        refine ⟨_, rfl, ?_⟩
        dsimp only [tNoPart]
        refine ⟨_, rfl, _, rfl, p, xs, rfl, .inl (.inl F.at_), fun p3 np3 => ?_⟩
        obtain ⟨us3, tp3, in3⟩ := cut_tps F.pr none (some ((at_ : Nat) : Int))
        have l3 := cutV_length xs none (some ((at_ : Nat) : Int))
        generalize cutV xs none (some ((at_ : Nat) : Int)) = xs3 at tp3 l3 ⊢
        have gs : Grows H25 (upd H25 p3 (.lst xs3)) := Grows.new np3
        have k3 : upd H25 p3 (.lst xs3) p3 = some (.lst xs3) := upd_same
        have ngp3 := (L.offG np3)
        generalize upd H25 p3 (.lst xs3) = H26 at gs k3 ⊢
        have F := F.grows gs
        have L := L.grows gs
        have ks := gs _ _ ks
        have GV : GvsAt ls g H26 vs os := Paired.mapP GV fun _ _ h => h.grows gs
        have v2 := v2.grows gs
        have kpr := gs _ _ kpr
        have tp3 := TpsAt.keep (fun b zs z => gs _ _ z) tp3
        refine ⟨_, rfl, _, rfl, _, _, rfl, rfl, _, rfl, ?_⟩
        dsimp only [tNoPart]
        refine ⟨p, xs, rfl, .inl (.inl F.at_), fun p4 np4 => ?_⟩
        obtain ⟨us4, tp4, in4⟩ := cut_tps F.pr (some (((at_ : Nat) : Int) + 1)) none
        have l4 := cutV_length xs (some (((at_ : Nat) : Int) + 1)) none
        generalize cutV xs (some (((at_ : Nat) : Int) + 1)) none = xs4 at tp4 l4 ⊢
        have gs : Grows H26 (upd H26 p4 (.lst xs4)) := Grows.new np4
        have k4 : upd H26 p4 (.lst xs4) p4 = some (.lst xs4) := upd_same
        have ngp4 := (L.offG np4)
        generalize upd H26 p4 (.lst xs4) = H27 at gs k4 ⊢
        have F := F.grows gs
        have L := L.grows gs
        have ks := gs _ _ ks
        have GV : GvsAt ls g H27 vs os := Paired.mapP GV fun _ _ h => h.grows gs
        have v2 := v2.grows gs
        have kpr := gs _ _ kpr
        have k3 := gs _ _ k3
        have tp3 := TpsAt.keep (fun b zs z => gs _ _ z) tp3
        have tp4 := TpsAt.keep (fun b zs z => gs _ _ z) tp4
        refine ⟨p3, p4, xs3, xs4, rfl, rfl, k3, k4, by omega, fun p5 np5 => ?_⟩
        have gs : Grows H27 (upd H27 p5 (.lst (xs3 ++ xs4))) := Grows.new np5
        have k5 : upd H27 p5 (.lst (xs3 ++ xs4)) p5 = some (.lst (xs3 ++ xs4)) := upd_same
        have ngp5 := (L.offG np5)
        generalize upd H27 p5 (.lst (xs3 ++ xs4)) = H28 at gs k5 ⊢
        have F := F.grows gs
        have L := L.grows gs
        have ks := gs _ _ ks
        have GV : GvsAt ls g H28 vs os := Paired.mapP GV fun _ _ h => h.grows gs
        have v2 := v2.grows gs
        have kpr := gs _ _ kpr
        have k3 := gs _ _ k3
        have k4 := gs _ _ k4
        have tp3 := TpsAt.keep (fun b zs z => gs _ _ z) tp3
        have tp4 := TpsAt.keep (fun b zs z => gs _ _ z) tp4
        have v3 : GvAt ls g H28 (.ref p5) (some ((us3 ++ us4).map some)) := gv_of (.inl k5) ngp5 (tps_app tp3 tp4) (fun t ht => (List.mem_append.mp ht).elim (fun h => ok1 t (in3 t h)) fun h => ok1 t (in4 t h)) (by rw [List.length_append]; omega)
        refine ⟨_, rfl, _, rfl, ?_⟩
        dsimp only [tNoPart]
        refine ⟨_, rfl, p, xs, rfl, .inl (.inl F.at_), fun p6 np6 => ?_⟩
        obtain ⟨us6, tp6, in6⟩ := cut_tps F.pr none (some 1)
        have l6 := cutV_length xs none (some 1)
        generalize cutV xs none (some 1) = xs6 at tp6 l6 ⊢
        have gs : Grows H28 (upd H28 p6 (.lst xs6)) := Grows.new np6
        have k6 : upd H28 p6 (.lst xs6) p6 = some (.lst xs6) := upd_same
        have ngp6 := (L.offG np6)
        generalize upd H28 p6 (.lst xs6) = H29 at gs k6 ⊢
        have F := F.grows gs
        have L := L.grows gs
        have ks := gs _ _ ks
        have GV : GvsAt ls g H29 vs os := Paired.mapP GV fun _ _ h => h.grows gs
        have v2 := v2.grows gs
        have v3 := v3.grows gs
        have kpr := gs _ _ kpr
        have k3 := gs _ _ k3
        have k4 := gs _ _ k4
        have tp3 := TpsAt.keep (fun b zs z => gs _ _ z) tp3
        have tp4 := TpsAt.keep (fun b zs z => gs _ _ z) tp4
        have tp6 := TpsAt.keep (fun b zs z => gs _ _ z) tp6
        refine ⟨p, p6, xs, xs6, rfl, rfl, F.at_, k6, by omega, fun p7 np7 => ?_⟩
        have gs : Grows H29 (upd H29 p7 (.lst (xs ++ xs6))) := Grows.new np7
        have kp7 : upd H29 p7 (.lst (xs ++ xs6)) p7 = some (.lst (xs ++ xs6)) := upd_same
        have ngp7 := (L.offG np7)
        generalize upd H29 p7 (.lst (xs ++ xs6)) = H30 at gs kp7 ⊢
        have F := F.grows gs
        have L := L.grows gs
        have ks := gs _ _ ks
        have GV : GvsAt ls g H30 vs os := Paired.mapP GV fun _ _ h => h.grows gs
        have v2 := v2.grows gs
        have v3 := v3.grows gs
        have kpr := gs _ _ kpr
        have k3 := gs _ _ k3
        have k4 := gs _ _ k4
        have k6 := gs _ _ k6
        have tp3 := TpsAt.keep (fun b zs z => gs _ _ z) tp3
        have tp4 := TpsAt.keep (fun b zs z => gs _ _ z) tp4
        have tp6 := TpsAt.keep (fun b zs z => gs _ _ z) tp6
        have v4 : GvAt ls g H30 (.ref p7) (some ((ts ++ us6).map some)) := gv_of (.inl kp7) ngp7 (tps_app F.pr tp6) (fun t ht => (List.mem_append.mp ht).elim (fun h => ok1 t h) fun h => ok1 t (in6 t h)) (by rw [List.length_append]; omega)
        refine ⟨_, rfl, ?_⟩
        dsimp only [tCons, tC]
        refine one_go (t := (1, [], [ch])) (fun R r => ⟨_, rfl, ls, 0, ch, rfl, rfl, hlsz, atI_nat (j := 0) hch0, r⟩) fun H31 p8 b8 gs n8 k8 t8 => ?_
        have ngp8 := (L.offG n8)
        have F := F.grows gs
        have L := L.grows gs
        have ks := gs _ _ ks
        have GV : GvsAt ls g H31 vs os := Paired.mapP GV fun _ _ h => h.grows gs
        have v2 := v2.grows gs
        have v3 := v3.grows gs
        have v4 := v4.grows gs
        have kpr := gs _ _ kpr
        have k3 := gs _ _ k3
        have k4 := gs _ _ k4
        have k6 := gs _ _ k6
        have tp3 := TpsAt.keep (fun b zs z => gs _ _ z) tp3
        have tp4 := TpsAt.keep (fun b zs z => gs _ _ z) tp4
        have tp6 := TpsAt.keep (fun b zs z => gs _ _ z) tp6
        refine ⟨p, p8, xs, [.ref b8], rfl, rfl, F.at_, k8, by show xs.length + 1 ≤ sizeLine; omega, fun p9 np9 => ?_⟩
        have gs : Grows H31 (upd H31 p9 (.lst (xs ++ [.ref b8]))) := Grows.new np9
        have kp9 : upd H31 p9 (.lst (xs ++ [.ref b8])) p9 = some (.lst (xs ++ [.ref b8])) := upd_same
        have ngp9 := (L.offG np9)
        generalize upd H31 p9 (.lst (xs ++ [.ref b8])) = H32 at gs kp9 ⊢
        have F := F.grows gs
        have L := L.grows gs
        have ks := gs _ _ ks
        have GV : GvsAt ls g H32 vs os := Paired.mapP GV fun _ _ h => h.grows gs
        have v2 := v2.grows gs
        have v3 := v3.grows gs
        have v4 := v4.grows gs
        have kpr := gs _ _ kpr
        have k3 := gs _ _ k3
        have k4 := gs _ _ k4
        have k6 := gs _ _ k6
        have k8 := gs _ _ k8
        have tp3 := TpsAt.keep (fun b zs z => gs _ _ z) tp3
        have tp4 := TpsAt.keep (fun b zs z => gs _ _ z) tp4
        have tp6 := TpsAt.keep (fun b zs z => gs _ _ z) tp6
        have t8 := TpsAt.keep (fun b zs z => gs _ _ z) t8
        have v5 : GvAt ls g H32 (.ref p9) (some ((ts ++ [(1, [], [ch])]).map some)) := gv_of (.inl kp9) ngp9 (tps_app F.pr t8) (fun t ht => (List.mem_append.mp ht).elim (fun h => ok1 t h) fun h => by rw [List.mem_singleton.mp h]; exact ⟨by show 1 ≤ 4; omega, okW_sW (fun c hc => by cases hc) (by show 0 ≤ 12; omega), okW_sW (fun c hc => by rw [List.mem_singleton.mp hc]; exact hch) (by show 1 ≤ 12; omega)⟩) (by rw [List.length_append]; show xs.length + 1 ≤ 1000000; omega)
        refine ⟨by show 5 ≤ sizeLine; decide, fun pL npL => ?_⟩
        have gs : Grows H32 (upd H32 pL (.lst [.ref p, .ref pt, .ref p5, .ref p7, .ref p9])) := Grows.new npL
        have kL : upd H32 pL (.lst [.ref p, .ref pt, .ref p5, .ref p7, .ref p9]) pL = some (.lst [.ref p, .ref pt, .ref p5, .ref p7, .ref p9]) := upd_same
        have ngpL := (L.offG npL)
        generalize upd H32 pL (.lst [.ref p, .ref pt, .ref p5, .ref p7, .ref p9]) = H33 at gs kL ⊢
        have F := F.grows gs
        have L := L.grows gs
        have ks := gs _ _ ks
        have GV : GvsAt ls g H33 vs os := Paired.mapP GV fun _ _ h => h.grows gs
        have v2 := v2.grows gs
        have v3 := v3.grows gs
        have v4 := v4.grows gs
        have v5 := v5.grows gs
        have kpr := gs _ _ kpr
        have k3 := gs _ _ k3
        have k4 := gs _ _ k4
        have k6 := gs _ _ k6
        have k8 := gs _ _ k8
        have tp3 := TpsAt.keep (fun b zs z => gs _ _ z) tp3
        have tp4 := TpsAt.keep (fun b zs z => gs _ _ z) tp4
        have tp6 := TpsAt.keep (fun b zs z => gs _ _ z) tp6
        have t8 := TpsAt.keep (fun b zs z => gs _ _ z) t8
        refine ⟨sp, pL, vs, _, rfl, rfl, ks, kL, by show vs.length + 5 ≤ sizeLine; omega, fun sq nsq => ?_⟩
        have gs : Grows H33 (upd H33 sq (.lst (vs ++ [.ref p, .ref pt, .ref p5, .ref p7, .ref p9]))) := Grows.new nsq
        have ksq : upd H33 sq (.lst (vs ++ [.ref p, .ref pt, .ref p5, .ref p7, .ref p9])) sq = some (.lst (vs ++ [.ref p, .ref pt, .ref p5, .ref p7, .ref p9])) := upd_same
        have ngsq := (L.offG nsq)
        generalize upd H33 sq (.lst (vs ++ [.ref p, .ref pt, .ref p5, .ref p7, .ref p9])) = H34 at gs ksq ⊢
        have F := F.grows gs
        have L := L.grows gs
        have ks := gs _ _ ks
        have GV : GvsAt ls g H34 vs os := Paired.mapP GV fun _ _ h => h.grows gs
        have v2 := v2.grows gs
        have v3 := v3.grows gs
        have v4 := v4.grows gs
        have v5 := v5.grows gs
        have kpr := gs _ _ kpr
        have k3 := gs _ _ k3
        have k4 := gs _ _ k4
        have k6 := gs _ _ k6
        have k8 := gs _ _ k8
        have tp3 := TpsAt.keep (fun b zs z => gs _ _ z) tp3
        have tp4 := TpsAt.keep (fun b zs z => gs _ _ z) tp4
        have tp6 := TpsAt.keep (fun b zs z => gs _ _ z) tp6
        have t8 := TpsAt.keep (fun b zs z => gs _ _ z) t8
        refine ⟨_, rfl, _, rfl, ?_⟩
        dsimp only [tCons, tC]
        refine one_go (t := (1, one.cps.toList, one.cps.toList)) (fun R r => ⟨_, rfl, _, rfl, by rw [show tupP (1, one.cps.toList, one.cps.toList) = [.int ((1 : Nat) : Int), .str one, .str one] by unfold tupP; rw [so]] at r; exact r⟩) fun H35 p10 b10 gs n10 k10 t10 => ?_
        have ngp10 := (L.offG n10)
        have F := F.grows gs
        have L := L.grows gs
        have ks := gs _ _ ks
        have GV : GvsAt ls g H35 vs os := Paired.mapP GV fun _ _ h => h.grows gs
        have v2 := v2.grows gs
        have v3 := v3.grows gs
        have v4 := v4.grows gs
        have v5 := v5.grows gs
        have kpr := gs _ _ kpr
        have k3 := gs _ _ k3
        have k4 := gs _ _ k4
        have k6 := gs _ _ k6
        have k8 := gs _ _ k8
        have ksq := gs _ _ ksq
        have tp3 := TpsAt.keep (fun b zs z => gs _ _ z) tp3
        have tp4 := TpsAt.keep (fun b zs z => gs _ _ z) tp4
        have tp6 := TpsAt.keep (fun b zs z => gs _ _ z) tp6
        have t8 := TpsAt.keep (fun b zs z => gs _ _ z) t8
        refine ⟨p, p10, xs, [.ref b10], rfl, rfl, F.at_, k10, by show xs.length + 1 ≤ sizeLine; omega, fun p11 np11 => ?_⟩
        have gs : Grows H35 (upd H35 p11 (.lst (xs ++ [.ref b10]))) := Grows.new np11
        have kp11 : upd H35 p11 (.lst (xs ++ [.ref b10])) p11 = some (.lst (xs ++ [.ref b10])) := upd_same
        have ngp11 := (L.offG np11)
        generalize upd H35 p11 (.lst (xs ++ [.ref b10])) = H36 at gs kp11 ⊢
        have F := F.grows gs
        have L := L.grows gs
        have ks := gs _ _ ks
        have GV : GvsAt ls g H36 vs os := Paired.mapP GV fun _ _ h => h.grows gs
        have v2 := v2.grows gs
        have v3 := v3.grows gs
        have v4 := v4.grows gs
        have v5 := v5.grows gs
        have kpr := gs _ _ kpr
        have k3 := gs _ _ k3
        have k4 := gs _ _ k4
        have k6 := gs _ _ k6
        have k8 := gs _ _ k8
        have ksq := gs _ _ ksq
        have k10 := gs _ _ k10
        have tp3 := TpsAt.keep (fun b zs z => gs _ _ z) tp3
        have tp4 := TpsAt.keep (fun b zs z => gs _ _ z) tp4
        have tp6 := TpsAt.keep (fun b zs z => gs _ _ z) tp6
        have t8 := TpsAt.keep (fun b zs z => gs _ _ z) t8
        have t10 := TpsAt.keep (fun b zs z => gs _ _ z) t10
        have v6 : GvAt ls g H36 (.ref p11) (some ((ts ++ [(1, one.cps.toList, one.cps.toList)]).map some)) := gv_of (.inl kp11) ngp11 (tps_app F.pr t10) (fun t ht => (List.mem_append.mp ht).elim (fun h => ok1 t h) fun h => by rw [List.mem_singleton.mp h]; exact ⟨by show 1 ≤ 4; omega, okw1, okw1⟩) (by rw [List.length_append]; show xs.length + 1 ≤ 1000000; omega)
        refine ⟨_, rfl, by show 1 ≤ sizeLine; decide, fun pn npn => ?_⟩
        have gs : Grows H36 (upd H36 pn (.lst [.non])) := Grows.new npn
        have kpn : upd H36 pn (.lst [.non]) pn = some (.lst [.non]) := upd_same
        have ngpn := (L.offG npn)
        generalize upd H36 pn (.lst [.non]) = H37 at gs kpn ⊢
        have F := F.grows gs
        have L := L.grows gs
        have ks := gs _ _ ks
        have GV : GvsAt ls g H37 vs os := Paired.mapP GV fun _ _ h => h.grows gs
        have v2 := v2.grows gs
        have v3 := v3.grows gs
        have v4 := v4.grows gs
        have v5 := v5.grows gs
        have v6 := v6.grows gs
        have kpr := gs _ _ kpr
        have k3 := gs _ _ k3
        have k4 := gs _ _ k4
        have k6 := gs _ _ k6
        have k8 := gs _ _ k8
        have ksq := gs _ _ ksq
        have k10 := gs _ _ k10
        have tp3 := TpsAt.keep (fun b zs z => gs _ _ z) tp3
        have tp4 := TpsAt.keep (fun b zs z => gs _ _ z) tp4
        have tp6 := TpsAt.keep (fun b zs z => gs _ _ z) tp6
        have t8 := TpsAt.keep (fun b zs z => gs _ _ z) t8
        have t10 := TpsAt.keep (fun b zs z => gs _ _ z) t10
        refine ⟨p, pn, xs, [.non], rfl, rfl, F.at_, kpn, by show xs.length + 1 ≤ sizeLine; omega, fun p12 np12 => ?_⟩
        have gs : Grows H37 (upd H37 p12 (.lst (xs ++ [.non]))) := Grows.new np12
        have kp12 : upd H37 p12 (.lst (xs ++ [.non])) p12 = some (.lst (xs ++ [.non])) := upd_same
        have ngp12 := (L.offG np12)
        generalize upd H37 p12 (.lst (xs ++ [.non])) = H38 at gs kp12 ⊢
        have F := F.grows gs
        have L := L.grows gs
        have ks := gs _ _ ks
        have GV : GvsAt ls g H38 vs os := Paired.mapP GV fun _ _ h => h.grows gs
        have v2 := v2.grows gs
        have v3 := v3.grows gs
        have v4 := v4.grows gs
        have v5 := v5.grows gs
        have v6 := v6.grows gs
        have kpr := gs _ _ kpr
        have k3 := gs _ _ k3
        have k4 := gs _ _ k4
        have k6 := gs _ _ k6
        have k8 := gs _ _ k8
        have ksq := gs _ _ ksq
        have k10 := gs _ _ k10
        have kpn := gs _ _ kpn
        have tp3 := TpsAt.keep (fun b zs z => gs _ _ z) tp3
        have tp4 := TpsAt.keep (fun b zs z => gs _ _ z) tp4
        have tp6 := TpsAt.keep (fun b zs z => gs _ _ z) tp6
        have t8 := TpsAt.keep (fun b zs z => gs _ _ z) t8
        have t10 := TpsAt.keep (fun b zs z => gs _ _ z) t10
        have v7 : GvAt ls g H38 (.ref p12) (some (ts.map some ++ [none])) := ⟨p12, _, rfl, ngp12, .inl kp12, paired_app (its_of F.pr ok1) (.cons rfl .nil), by rw [List.length_append]; show xs.length + 1 ≤ 1000000; omega⟩
        refine ⟨_, rfl, ?_⟩
        dsimp only [tCons, tC]
        refine one_go (t := (0, one.cps.toList, other.cps.toList)) (fun R r => ⟨_, rfl, _, rfl, by rw [hT] at r; exact r⟩) fun H39 p13 b13 gs n13 k13 t13 => ?_
        have ngp13 := (L.offG n13)
        have F := F.grows gs
        have L := L.grows gs
        have ks := gs _ _ ks
        have GV : GvsAt ls g H39 vs os := Paired.mapP GV fun _ _ h => h.grows gs
        have v2 := v2.grows gs
        have v3 := v3.grows gs
        have v4 := v4.grows gs
        have v5 := v5.grows gs
        have v6 := v6.grows gs
        have v7 := v7.grows gs
        have kpr := gs _ _ kpr
        have k3 := gs _ _ k3
        have k4 := gs _ _ k4
        have k6 := gs _ _ k6
        have k8 := gs _ _ k8
        have ksq := gs _ _ ksq
        have k10 := gs _ _ k10
        have kpn := gs _ _ kpn
        have tp3 := TpsAt.keep (fun b zs z => gs _ _ z) tp3
        have tp4 := TpsAt.keep (fun b zs z => gs _ _ z) tp4
        have tp6 := TpsAt.keep (fun b zs z => gs _ _ z) tp6
        have t8 := TpsAt.keep (fun b zs z => gs _ _ z) t8
        have t10 := TpsAt.keep (fun b zs z => gs _ _ z) t10
        refine ⟨p, p13, xs, [.ref b13], rfl, rfl, F.at_, k13, by show xs.length + 1 ≤ sizeLine; omega, fun p14 np14 => ?_⟩
        have gs : Grows H39 (upd H39 p14 (.lst (xs ++ [.ref b13]))) := Grows.new np14
        have kp14 : upd H39 p14 (.lst (xs ++ [.ref b13])) p14 = some (.lst (xs ++ [.ref b13])) := upd_same
        have ngp14 := (L.offG np14)
        generalize upd H39 p14 (.lst (xs ++ [.ref b13])) = H40 at gs kp14 ⊢
        have F := F.grows gs
        have L := L.grows gs
        have ks := gs _ _ ks
        have GV : GvsAt ls g H40 vs os := Paired.mapP GV fun _ _ h => h.grows gs
        have v2 := v2.grows gs
        have v3 := v3.grows gs
        have v4 := v4.grows gs
        have v5 := v5.grows gs
        have v6 := v6.grows gs
        have v7 := v7.grows gs
        have kpr := gs _ _ kpr
        have k3 := gs _ _ k3
        have k4 := gs _ _ k4
        have k6 := gs _ _ k6
        have k8 := gs _ _ k8
        have ksq := gs _ _ ksq
        have k10 := gs _ _ k10
        have kpn := gs _ _ kpn
        have k13 := gs _ _ k13
        have tp3 := TpsAt.keep (fun b zs z => gs _ _ z) tp3
        have tp4 := TpsAt.keep (fun b zs z => gs _ _ z) tp4
        have tp6 := TpsAt.keep (fun b zs z => gs _ _ z) tp6
        have t8 := TpsAt.keep (fun b zs z => gs _ _ z) t8
        have t10 := TpsAt.keep (fun b zs z => gs _ _ z) t10
        have t13 := TpsAt.keep (fun b zs z => gs _ _ z) t13
        have v8 : GvAt ls g H40 (.ref p14) (some ((ts ++ [(0, one.cps.toList, other.cps.toList)]).map some)) := gv_of (.inl kp14) ngp14 (tps_app F.pr t13) (fun t ht => (List.mem_append.mp ht).elim (fun h => ok1 t h) fun h => by rw [List.mem_singleton.mp h]; exact ⟨by show 0 ≤ 4; omega, okw1, okw2⟩) (by rw [List.length_append]; show xs.length + 1 ≤ 1000000; omega)
        refine ⟨by show 3 ≤ sizeLine; decide, fun pM npM => ?_⟩
        have gs : Grows H40 (upd H40 pM (.lst [.ref p11, .ref p12, .ref p14])) := Grows.new npM
        have kM : upd H40 pM (.lst [.ref p11, .ref p12, .ref p14]) pM = some (.lst [.ref p11, .ref p12, .ref p14]) := upd_same
        have ngpM := (L.offG npM)
        generalize upd H40 pM (.lst [.ref p11, .ref p12, .ref p14]) = H41 at gs kM ⊢
        have F := F.grows gs
        have L := L.grows gs
        have ks := gs _ _ ks
        have GV : GvsAt ls g H41 vs os := Paired.mapP GV fun _ _ h => h.grows gs
        have v2 := v2.grows gs
        have v3 := v3.grows gs
        have v4 := v4.grows gs
        have v5 := v5.grows gs
        have v6 := v6.grows gs
        have v7 := v7.grows gs
        have v8 := v8.grows gs
        have kpr := gs _ _ kpr
        have k3 := gs _ _ k3
        have k4 := gs _ _ k4
        have k6 := gs _ _ k6
        have k8 := gs _ _ k8
        have ksq := gs _ _ ksq
        have k10 := gs _ _ k10
        have kpn := gs _ _ kpn
        have k13 := gs _ _ k13
        have tp3 := TpsAt.keep (fun b zs z => gs _ _ z) tp3
        have tp4 := TpsAt.keep (fun b zs z => gs _ _ z) tp4
        have tp6 := TpsAt.keep (fun b zs z => gs _ _ z) tp6
        have t8 := TpsAt.keep (fun b zs z => gs _ _ z) t8
        have t10 := TpsAt.keep (fun b zs z => gs _ _ z) t10
        have t13 := TpsAt.keep (fun b zs z => gs _ _ z) t13
        refine ⟨sq, pM, _, _, rfl, rfl, ksq, kM, by show (vs ++ [V.ref p, .ref pt, .ref p5, .ref p7, .ref p9]).length + 3 ≤ sizeLine; rw [List.length_append]; show vs.length + 5 + 3 ≤ sizeLine; omega, fun sr nsr => ?_⟩
        have gs : Grows H41 (upd H41 sr (.lst ((vs ++ [.ref p, .ref pt, .ref p5, .ref p7, .ref p9]) ++ [.ref p11, .ref p12, .ref p14]))) := Grows.new nsr
        have ksr : upd H41 sr (.lst ((vs ++ [.ref p, .ref pt, .ref p5, .ref p7, .ref p9]) ++ [.ref p11, .ref p12, .ref p14])) sr = some (.lst ((vs ++ [.ref p, .ref pt, .ref p5, .ref p7, .ref p9]) ++ [.ref p11, .ref p12, .ref p14])) := upd_same
        have ngsr := (L.offG nsr)
        generalize upd H41 sr (.lst ((vs ++ [.ref p, .ref pt, .ref p5, .ref p7, .ref p9]) ++ [.ref p11, .ref p12, .ref p14])) = H42 at gs ksr ⊢
        have F := F.grows gs
        have L := L.grows gs
        have ks := gs _ _ ks
        have GV : GvsAt ls g H42 vs os := Paired.mapP GV fun _ _ h => h.grows gs
        have v2 := v2.grows gs
        have v3 := v3.grows gs
        have v4 := v4.grows gs
        have v5 := v5.grows gs
        have v6 := v6.grows gs
        have v7 := v7.grows gs
        have v8 := v8.grows gs
        have kpr := gs _ _ kpr
        have k3 := gs _ _ k3
        have k4 := gs _ _ k4
        have k6 := gs _ _ k6
        have k8 := gs _ _ k8
        have ksq := gs _ _ ksq
        have k10 := gs _ _ k10
        have kpn := gs _ _ kpn
        have k13 := gs _ _ k13
        have tp3 := TpsAt.keep (fun b zs z => gs _ _ z) tp3
        have tp4 := TpsAt.keep (fun b zs z => gs _ _ z) tp4
        have tp6 := TpsAt.keep (fun b zs z => gs _ _ z) tp6
        have t8 := TpsAt.keep (fun b zs z => gs _ _ z) t8
        have t10 := TpsAt.keep (fun b zs z => gs _ _ z) t10
        have t13 := TpsAt.keep (fun b zs z => gs _ _ z) t13
        exact rest2 _ sr _ _ H42 ksr (paired_app (paired_app GV (.cons F.gv (.cons v2 (.cons v3 (.cons v4 (.cons v5 .nil)))))) (.cons v6 (.cons v7 (.cons v8 .nil)))) ngsr L
      -- each of them judged
      refine ⟨_, rfl, sp, rfl, ⟨_, .inl (.inl ks)⟩, for_it (walk_list (K := K) (a := sp) (xs := vs)) (fun r σ H' => (∃ w11 w12 : Option V, σ = [some (.ref a0), some (.ref a), some (.int (0 + (i : Int))), some (.str other), v4, some (.int ((n : Nat) : Int)), some fv, some (.ref k), some (.bl (sameB n one.cps.toList other.cps.toList)), some (.ref sp), w10, w11, w12, v13, some (.str ls), v15, some (.str one), v17, v18]) ∧ Grows H19 H')
        ⟨⟨_, _, rfl⟩, Grows.refl H19⟩ (fun _ _ H' _ p => .inl (.inl (p.2 _ _ ks))) ?_ ?_⟩
      · rintro r y σ H20 H20' hr' ⟨⟨w11, w12, rfl⟩, g20⟩ ⟨rfl, hy⟩
        obtain ⟨o, ho, gv⟩ := paired_idx GV hy
        have gv := gv.grows g20
        refine ⟨_, rfl, _, rfl, _, rfl, _, rfl, _, rfl, ls, n, one.cps.toList, other.cps.toList, y, o, by rw [so, st]; rfl, lls, gv.give, fun H21 g21 => ?_⟩
        refine ⟨_, rfl, _, rfl, _, rfl, _, rfl, _, rfl, .str ls, _, .str one, .str other, y, rfl, go_game hlsz lo.ok (show n ≤ 4 by omega) o1 (by omega) o2 (by omega) ⟨o, (gv.grows g21).give, fun H22 g22 => ?_⟩⟩
        have same : giveB o (n, one.cps.toList, other.cps.toList) = true → sameB n one.cps.toList other.cps.toList = true := fun e => by
          cases o with
          | none => cases e
          | some os => exact sameB_iff.mpr (bondB_same e)
        generalize giveB o (n, one.cps.toList, other.cps.toList) = b at same ⊢
        refine ⟨_, rfl, .bl b, .bl b, .bool b, rfl, .bl b, .bl b, good_bool b, by show 0 < 8; decide, fun H23 g23 => ⟨true, rfl, if_neg_of (by decide) ?_⟩⟩
        have g0 := ((g20.trans g21).trans g22).trans g23
        refine ⟨_, rfl, b, rfl, ?_⟩
        cases b with
        | false => exact if_neg_of (by decide) (if_neg_of (by decide) ⟨⟨_, _, rfl⟩, g0⟩)
        | true =>
          have e := same rfl
          exact if_pos_of rfl ⟨_, rfl, _, rfl, if_neg_of (by rw [e]; decide) ⟨⟨_, _, rfl⟩, g0⟩⟩
      · rintro σ H20 ⟨⟨w11, w12, rfl⟩, g20⟩
        exact ⟨⟨_, _, _, _, _, _, _, _, rfl⟩, L19.grows g20⟩
    · rintro σ H8 ⟨⟨w5, w6, w7, w8, w9, w10, w11, w12, rfl⟩, L8⟩
      -- odd, word
      refine ⟨_, rfl, _, rfl, by show 5 ≤ sizeLine; decide, fun p np => ?_⟩
      have gp : Grows H8 (upd H8 p (.lst oddsN)) := Grows.new np
      refine ⟨a, g, cA, p, cs, 1000 * i + 320 + 4, oddsN, rfl, (L8.grows gp).sat, by omega, upd_same, L8.offG np, by simp [oddsN], by show 5 ≤ 1000000; decide, fun H15 od hod s15 b15 => ?_⟩
      have L15 := (L8.grows gp).but b15 s15
      clear L8 gp s15 b15
      refine ⟨_, rfl, _, rfl, a, g, cA, cs, 1000 * i + 320 + 4 + 1, ls, rfl, by omega, L15.sat, by omega, fun H16 wd hwd hwg s16 b16 => ?_⟩
      have L16 := L15.but b16 s16
      clear L15 s16 b16
      refine ⟨by show 2 ≤ sizeLine; decide, fun t2 nt2 => ?_⟩
      have g2 := Grows.new (o := .tup [od, wd]) nt2
      have L17 := L16.grows g2
      have bw : BadV K (upd H16 t2 (.tup [od, wd])) ls wd := odd_bad lo (odd_grows g2 hwd)
      refine ⟨t2, _, rfl, .inl (.inl upd_same), rfl, _, _, rfl, _, _, rfl, rfl, ?_⟩
      generalize upd H16 t2 (.tup [od, wd]) = H17 at g2 L17 bw ⊢
      clear L16 g2 hwd hwg
      try dsimp only [gName, tSeq, tIfS, tNot]
      refine go_caught (K := K) (fun H' => ExtN H17 H' ∧ LS H' a g cA cs (1000 * i + 326) Pt) SN.exm SN.ec SN.kit L17.tab (fun Ha E Q' ea ta hE => ?_) (fun Ha ax ra nax => ⟨true, rfl, if_neg_of (by decide) ?_⟩)
      · have La := L17.ext ea ta
        have e2 : ExtN H17 Ha := ea
        have fin : ∀ H', Grows Ha H' → E (.ref CN) none H' := fun H' g' => hE H' ⟨ExtN.tr e2 g'.extN, La.grows g'⟩
        exact ⟨_, rfl, _, rfl, _, rfl, .str "", od, wd, wd, rfl, .inl ⟨.inr ⟨"", rfl, by show 0 ≤ sizeLine; omega, by decide +kernel⟩, fin⟩⟩
      have gk0 := Grows.new (o := .ext (Kept (.ref CN) none ax)) nax
      have Lc0 := ra.2.grows gk0
      have ec0 := ExtN.tr ra.1 gk0.extN
      generalize upd Ha ax (.ext (Kept (.ref CN) none ax)) = Hc0 at Lc0 ec0 ⊢
      clear ra gk0 nax
      try dsimp only [gName, tSeq, tIfS, tNot]
      refine go_caught (K := K) (fun H' => ExtN H17 H' ∧ LS H' a g cA cs (1000 * i + 326) Pt) SM.exm SM.ec SM.kit Lc0.tab (fun Ha E Q' ea ta hE => ?_) (fun Ha ax ra nax => ⟨true, rfl, if_neg_of (by decide) ?_⟩)
      · have La := Lc0.ext ea ta
        have e2 : ExtN H17 Ha := ExtN.tr ec0 ea
        have fin : ∀ H', Grows Ha H' → E (.ref CM) none H' := fun H' g' => hE H' ⟨ExtN.tr e2 g'.extN, La.grows g'⟩
        exact ⟨_, rfl, _, rfl, _, rfl, _, rfl, .str ls, od, wd, wd, .non, rfl, .inr ⟨ls, rfl, hlsz, lo.ok, .inl ⟨odd_num hod, fin⟩⟩⟩
      have gk1 := Grows.new (o := .ext (Kept (.ref CM) none ax)) nax
      have Lc1 := ra.2.grows gk1
      have ec1 := ExtN.tr ra.1 gk1.extN
      generalize upd Ha ax (.ext (Kept (.ref CM) none ax)) = Hc1 at Lc1 ec1 ⊢
      clear ra gk1 nax
      -- bad
      have hlong : (Txt.mul (sg ch) ((13 : Nat) : Int)).length = 13 := by rw [mul_len]; rfl
      refine ⟨_, rfl, _, rfl, ls, 0, ch, rfl, rfl, hlsz, atI_nat (j := 0) hch0, sg ch, 13, rfl, rfl, by decide, by show 1 * 13 ≤ 1000000; decide, by show 2 ≤ sizeLine; decide, fun pb npb => ?_⟩
      have gb : Grows Hc1 (upd Hc1 pb (.lst [wd, .str (Txt.mul (sg ch) ((13 : Nat) : Int))])) := Grows.new npb
      have kb : upd Hc1 pb (.lst [wd, .str (Txt.mul (sg ch) ((13 : Nat) : Int))]) pb = some (.lst [wd, .str (Txt.mul (sg ch) ((13 : Nat) : Int))]) := upd_same
      have Lb := Lc1.grows gb
      have eb := ExtN.tr ec1 gb.extN
      generalize upd Hc1 pb (.lst [wd, .str (Txt.mul (sg ch) ((13 : Nat) : Int))]) = Hb at kb Lb eb ⊢
      clear gb Lc1 npb
      have keep : ∀ H', ExtN Hb H' → H' pb = some (.lst [wd, .str (Txt.mul (sg ch) ((13 : Nat) : Int))]) := fun H' e => e _ _ kb (by intro ps z; cases z)
      refine ⟨pb, rfl, ⟨_, .inl (.inl kb)⟩, for_it (walk_list (K := K) (a := pb) (xs := [wd, .str (Txt.mul (sg ch) ((13 : Nat) : Int))])) (fun j σ H' => (∃ w13 : Option V, σ = [some (.ref a0), some (.ref a), some (.int (0 + (i : Int))), some (.str other), v4, w5, w6, w7, w8, w9, w10, w11, w12, w13, some (.str ls), some od, some (.str one), some wd, v18]) ∧ ExtN Hb H' ∧ LS H' a g cA cs (1000 * i + 326) Pt)
        ⟨⟨_, rfl⟩, (Grows.refl Hb).extN, Lb⟩ (fun _ _ H' _ p => .inl (.inl (keep H' p.2.1))) ?_ ?_⟩
      · rintro j y σ Hd Hd' hj' ⟨⟨w13, rfl⟩, ed, Ld⟩ ⟨rfl, hy⟩
        have by_ : ∀ H', ExtN Hb H' → BadV K H' ls y := fun H' e => by
          have hy := List.mem_of_getElem? hy
          simp only [List.mem_cons, List.not_mem_nil, or_false] at hy
          rcases hy with rfl | rfl
          · exact bw.ext (ExtN.tr eb e)
          · exact bad_long hlong
        try dsimp only [gName, tSeq, tIfS, tNot]
        refine go_caught (K := K) (fun H' => ExtN Hb H' ∧ LS H' a g cA cs (1000 * i + 326) Pt) SW.exm SW.ec SW.kit Ld.tab (fun Ha E Q' ea ta hE => ?_) (fun Ha ax ra nax => ⟨true, rfl, if_neg_of (by decide) ?_⟩)
        · have La := Ld.ext ea ta
          have e2 : ExtN Hb Ha := ExtN.tr ed ea
          have fin : ∀ H', Grows Ha H' → E (.ref CW) none H' := fun H' g' => hE H' ⟨ExtN.tr e2 g'.extN, La.grows g'⟩
          exact ⟨_, rfl, _, rfl, .str ls, .int ((2 : Nat) : Int), y, .non, rfl, .inr ⟨ls, rfl, hlsz, lo.ok, .inr ⟨2, rfl, by decide, .inl ⟨by_ Ha e2, fin⟩⟩⟩⟩
        have gk2 := Grows.new (o := .ext (Kept (.ref CW) none ax)) nax
        have Lc2 := ra.2.grows gk2
        have ec2 := ExtN.tr ra.1 gk2.extN
        generalize upd Ha ax (.ext (Kept (.ref CW) none ax)) = Hc2 at Lc2 ec2 ⊢
        clear ra gk2 nax
        try dsimp only [gName, tSeq, tIfS, tNot]
        refine go_caught (K := K) (fun H' => ExtN Hb H' ∧ LS H' a g cA cs (1000 * i + 326) Pt) SW.exm SW.ec SW.kit Lc2.tab (fun Ha E Q' ea ta hE => ?_) (fun Ha ax ra nax => ⟨true, rfl, if_neg_of (by decide) ?_⟩)
        · have La := Lc2.ext ea ta
          have e2 : ExtN Hb Ha := ExtN.tr ec2 ea
          refine ⟨_, rfl, _, rfl, _, rfl, by show 0 ≤ sizeLine; decide, fun pe npe => ?_⟩
          have ge : Grows Ha (upd Ha pe (.lst [])) := Grows.new npe
          have e3 := ExtN.tr e2 ge.extN
          have fin : ∀ H', Grows (upd Ha pe (.lst [])) H' → E (.ref CW) none H' := fun H' g' => hE H' ⟨ExtN.tr e3 g'.extN, (La.grows ge).grows g'⟩
          exact ⟨.str ls, .int ((0 : Nat) : Int), .str one, y, .ref pe, rfl, .inr ⟨ls, rfl, hlsz, lo.ok, .inr ⟨0, rfl, by decide, .inr ⟨one, rfl, by omega, okW_of (m := 12) o1 (by omega), .inl ⟨by_ _ e3, fin⟩⟩⟩⟩⟩
        have gk3 := Grows.new (o := .ext (Kept (.ref CW) none ax)) nax
        exact ⟨⟨_, rfl⟩, ExtN.tr ra.1 gk3.extN, ra.2.grows gk3⟩
      · rintro σ Hd ⟨⟨w13, rfl⟩, ed, Ld⟩
        exact ⟨⟨_, _, _, _, _, _, _, _, _, _, _, _, _, _, _, _, _, rfl⟩, Ld.mono (by omega)⟩
  · rintro σ H2 ⟨⟨v2, v3, v4, v5, v6, v7, v8, v9, v10, v11, v12, v13, v14, v15, v16, v17, v18, rfl⟩, L⟩
    have oa : ∀ z : Str, (∀ d ∈ z.cps.toList, d = 97) → Of "ab" z := fun z h d hd => by
      have e2 : ("ab" : Str).cps.toList = [97, 98] := by decide +kernel
      rw [h d hd, e2]
      exact List.mem_cons_self
    have ea : ("aaa" : Str).cps.toList = List.replicate 3 97 := by decide +kernel
    have eb : ("aaaa" : Str).cps.toList = List.replicate 4 97 := by decide +kernel
    have o3 : Of "ab" "aaa" := oa _ fun d hd => by rw [ea] at hd; exact (List.mem_replicate.mp hd).2
    have o4 : Of "ab" "aaaa" := oa _ fun d hd => by rw [eb] at hd; exact (List.mem_replicate.mp hd).2
    dsimp only [tRet, tAndV, tOp, tCall, tCons, tC, tNil]
    refine go_bond (ls := "ab") (z1 := "aaa") (z2 := "aaaa") (n := 2) (by decide) (by decide +kernel) (by decide) o3 (by decide) o4 (by decide) fun H3 fv g3 hf => ?_
    obtain ⟨p, xs, ts, rfl, _⟩ := hf.resolve_left fun h => h.2 (by rw [ea, eb]; exact same_rep 2 3 4 97 (.inr ⟨by decide, by decide⟩))
    refine ⟨rfl, _, rfl, if_pos_of (by rw [decide_eq_false (show ¬ (V.ref p = V.non) by intro z; cases z)]; rfl) ?_⟩
    try dsimp only [tAndV, tOp, tCall, tCons, tC, tNil]
    refine go_bond (ls := "ab") (z1 := "aaa") (z2 := "aaaa") (n := 3) (by decide) (by decide +kernel) (by decide) o3 (by decide) o4 (by decide) fun H4 f2 g4 hf2 => ?_
    rcases hf2 with ⟨rfl, _⟩ | ⟨_, _, _, _, _, _, _, _, _, hs⟩
    · exact ⟨rfl, q H4⟩
    · rw [ea, eb] at hs
      exact absurd (rep_same 3 3 4 97 (by decide) hs) (by decide)
end
end SWL
set_option Elab.async false
set_option linter.all false
set_option maxRecDepth 100000
set_option maxHeartbeats 16000000
namespace SWL
open PySem PySem.Spec PyProof.Rows L2 LamX
/-! the facts of the top, gathered -/
theorem exm_by {K : PySem.W.Frag} {C : Value} {S : Addr} (h1 : PySem.W.subIn K (.ref S) (.type "BaseException") = some true) (h2 : PySem.W.isClsIn K S = true) (h3 : PySem.W.typeIn K (.ref S) = some (.type "type")) (h4 : PySem.W.subIn K C (.ref S) = some true) : PySem.W.exmOne K C (.ref S) = some true := by
  have e1 : (PySem.W.subIn K (.ref S) (.type "BaseException") == some true) = true := by rw [h1] <;> rfl
  have e2 : ((PySem.W.clsIn K S).isSome && PySem.W.typeIn K (.ref S) == some (.type "type")) = true := by
    have h5 : (PySem.W.clsIn K S).isSome = true := h2
    rw [h5, h3] <;> rfl
  show (if (PySem.W.subIn K (.ref S) (.type "BaseException") == some true) = true then (if ((PySem.W.clsIn K S).isSome && PySem.W.typeIn K (.ref S) == some (.type "type")) = true then PySem.W.subIn K C (.ref S) else none) else none) = some true
  rw [if_pos e1, if_pos e2]
  exact h4
theorem kit_self {K : PySem.W.Frag} {C : Addr} : PySem.W.kitOne K (.ref C) (.ref C) = some true := by
  unfold PySem.W.kitOne
  rw [if_pos (by simp)]
theorem all_mk {l : PySem.W.OpenLaw} {w : World} {K : PySem.W.Frag} {h : Heap} {mg : Str → Option Value} {q : Program} {loose : List Str} {mean : ExcName → Option Value} {mb : Str → Option Value} {dL : DefRec} {fa : Addr} (X : K.In h) (G : h.Ns mainGlobals mg) (T : Top q loose mean mg mb h) (hfa : mg "law" = some (.ref fa))
    {f0 f1 f2 f3 f4 f5 f6 f7 f8 f9 f10 f11 f12 f13 f14 f15 f16 f17 f18 f19 f20 f21 f22 f23 f24 f25 f26 f27 f28 C fm0 fm1 fm2 fm3 Dk cL Pt CS CN CM CW : Addr} {oc0 dc0 pm0 ct0 kV0 cd0 oc1 dc1 pm1 ct1 kV1 cd1 oc2 dc2 pm2 ct2 kV2 cd2 oc3 dc3 pm3 ct3 kV3 cd3 oc4 dc4 pm4 ct4 cd4 oc5 dc5 pm5 ct5 kV5 cd5 oc6 dc6 pm6 ct6 kV6 cd6 oc7 dc7 pm7 ct7 kV7 cd7 oc8 dc8 pm8 ct8 kV8 cd8 oc9 dc9 pm9 ct9 kV9 cd9 oc10 dc10 pm10 ct10 kV10 cd10 oc11 dc11 pm11 ct11 kV11 cd11 oc12 dc12 pm12 ct12 kV12 cd12 oc13 dc13 pm13 ct13 kV13 cd13 oc14 dc14 pm14 ct14 kV14 cd14 oc15 dc15 pm15 ct15 kV15 cd15 oc16 dc16 pm16 ct16 kV16 cd16 oc17 dc17 pm17 ct17 kV17 cd17 oc18 dc18 pm18 ct18 kV18 cd18 oc19 dc19 pm19 ct19 kV19 cd19 oc20 dc20 pm20 ct20 kV20 cd20 oc21 dc21 pm21 ct21 kV21 cd21 oc22 dc22 pm22 ct22 kV22 cd22 oc23 dc23 pm23 ct23 kV23 cd23 oc24 dc24 pm24 ct24 kV24 cd24 oc25 dc25 pm25 ct25 kV25 cd25 oc26 dc26 pm26 ct26 kV26 cd26 oc27 dc27 pm27 ct27 kV27 cd27 oc28 dc28 pm28 ct28 kV28 ocm0 dcm0 pmm0 ctm0 kVm0 cdm0 ocm1 dcm1 pmm1 ctm1 kVm1 cdm1 ocm2 dcm2 pmm2 ctm2 kVm2 cdm2 ocm3 dcm3 pmm3 ctm3 kVm3 cdm3 ocT : Value} {od0 an0 od1 an1 od2 an2 od3 an3 od4 an4 od5 an5 od6 an6 od7 an7 od8 an8 od9 an9 od10 an10 od11 an11 od12 an12 od13 an13 od14 an14 od15 an15 od16 an16 od17 an17 od18 an18 od19 an19 od20 an20 od21 an21 od22 an22 od23 an23 od24 an24 od25 an25 od26 an26 od27 an27 od28 an28 odm0 anm0 odm1 anm1 odm2 anm2 odm3 anm3 odT : Option Addr} {sl0 sl1 sl2 sl3 sl4 sl5 sl6 sl7 sl8 sl9 sl10 sl11 sl12 sl13 sl14 sl15 sl16 sl17 sl18 sl19 sl20 sl21 sl22 sl23 sl24 sl25 sl26 sl27 sl28 slm0 slm1 slm2 slm3 slT : Array (Option Value)} {tS tL tT tO tM : Tok} {vsT : Array Value}
    (hrec : (recsOf q).find? (fun e => e.name == ("law" : Str)) = some dL)
    (a0 : PySem.W.nsIn K mainGlobals "is_number" = some (some (.ref f0)))
    (l0 : K.lookup f0 = some ⟨oc0, od0, .func (PySem.W.fnOf "is_number" "is_number" (defArgs sIsNum) (defBody sIsNum) (defScope sIsNum) .none kV0 dc0 pm0 an0 cd0 ct0), sl0⟩)
    (c0 : PySem.W.codeIn K cd0 "is_number" = true)
    (k0 : PySem.W.keepIn K (.ref f0) = true)
    (a1 : PySem.W.nsIn K mainGlobals "is_letters" = some (some (.ref f1)))
    (l1 : K.lookup f1 = some ⟨oc1, od1, .func (PySem.W.fnOf "is_letters" "is_letters" (defArgs sIsL) (defBody sIsL) (defScope sIsL) .none kV1 dc1 pm1 an1 cd1 ct1), sl1⟩)
    (c1 : PySem.W.codeIn K cd1 "is_letters" = true)
    (k1 : PySem.W.keepIn K (.ref f1) = true)
    (a2 : PySem.W.nsIn K mainGlobals "need_letters" = some (some (.ref f2)))
    (l2 : K.lookup f2 = some ⟨oc2, od2, .func (PySem.W.fnOf "need_letters" "need_letters" (defArgs sNeedL) (defBody sNeedL) (defScope sNeedL) .none kV2 dc2 pm2 an2 cd2 ct2), sl2⟩)
    (c2 : PySem.W.codeIn K cd2 "need_letters" = true)
    (k2 : PySem.W.keepIn K (.ref f2) = true)
    (a3 : PySem.W.nsIn K mainGlobals "is_word_to" = some (some (.ref f3)))
    (l3 : K.lookup f3 = some ⟨oc3, od3, .func (PySem.W.fnOf "is_word_to" "is_word_to" (defArgs sIsW) (defBody sIsW) (defScope sIsW) .none kV3 dc3 pm3 an3 cd3 ct3), sl3⟩)
    (c3 : PySem.W.codeIn K cd3 "is_word_to" = true)
    (k3 : PySem.W.keepIn K (.ref f3) = true)
    (a4 : PySem.W.nsIn K mainGlobals "need_word" = some (some (.ref f4)))
    (l4 : K.lookup f4 = some ⟨oc4, od4, .func (PySem.W.fnOf "need_word" "need_word" (defArgs sNeedW) (defBody sNeedW) (defScope sNeedW) .none (.ref Dk) dc4 pm4 an4 cd4 ct4), sl4⟩)
    (c4 : PySem.W.codeIn K cd4 "need_word" = true)
    (k4 : PySem.W.keepIn K (.ref f4) = true)
    (a5 : PySem.W.nsIn K mainGlobals "need_number" = some (some (.ref f5)))
    (l5 : K.lookup f5 = some ⟨oc5, od5, .func (PySem.W.fnOf "need_number" "need_number" (defArgs sNeedN) (defBody sNeedN) (defScope sNeedN) .none kV5 dc5 pm5 an5 cd5 ct5), sl5⟩)
    (c5 : PySem.W.codeIn K cd5 "need_number" = true)
    (k5 : PySem.W.keepIn K (.ref f5) = true)
    (a6 : PySem.W.nsIn K mainGlobals "parts_at" = some (some (.ref f6)))
    (l6 : K.lookup f6 = some ⟨oc6, od6, .func (PySem.W.fnOf "parts_at" "parts_at" (defArgs sParts) (defBody sParts) (defScope sParts) .none kV6 dc6 pm6 an6 cd6 ct6), sl6⟩)
    (c6 : PySem.W.codeIn K cd6 "parts_at" = true)
    (k6 : PySem.W.keepIn K (.ref f6) = true)
    (a7 : PySem.W.nsIn K mainGlobals "places_with" = some (some (.ref f7)))
    (l7 : K.lookup f7 = some ⟨oc7, od7, .func (PySem.W.fnOf "places_with" "places_with" (defArgs sPlaces) (defBody sPlaces) (defScope sPlaces) .none kV7 dc7 pm7 an7 cd7 ct7), sl7⟩)
    (c7 : PySem.W.codeIn K cd7 "places_with" = true)
    (k7 : PySem.W.keepIn K (.ref f7) = true)
    (a8 : PySem.W.nsIn K mainGlobals "need_game" = some (some (.ref f8)))
    (l8 : K.lookup f8 = some ⟨oc8, od8, .func (PySem.W.fnOf "need_game" "need_game" (defArgs sGame) (defBody sGame) (defScope sGame) .none kV8 dc8 pm8 an8 cd8 ct8), sl8⟩)
    (c8 : PySem.W.codeIn K cd8 "need_game" = true)
    (k8 : PySem.W.keepIn K (.ref f8) = true)
    (a9 : PySem.W.nsIn K mainGlobals "least_answer" = some (some (.ref f9)))
    (l9 : K.lookup f9 = some ⟨oc9, od9, .func (PySem.W.fnOf "least_answer" "least_answer" (defArgs sLeastA) (defBody sLeastA) (defScope sLeastA) .none kV9 dc9 pm9 an9 cd9 ct9), sl9⟩)
    (c9 : PySem.W.codeIn K cd9 "least_answer" = true)
    (k9 : PySem.W.keepIn K (.ref f9) = true)
    (a10 : PySem.W.nsIn K mainGlobals "asked_triples" = some (some (.ref f10)))
    (l10 : K.lookup f10 = some ⟨oc10, od10, .func (PySem.W.fnOf "asked_triples" "asked_triples" (defArgs sAsked) (defBody sAsked) (defScope sAsked) .none kV10 dc10 pm10 an10 cd10 ct10), sl10⟩)
    (c10 : PySem.W.codeIn K cd10 "asked_triples" = true)
    (k10 : PySem.W.keepIn K (.ref f10) = true)
    (a11 : PySem.W.nsIn K mainGlobals "is_granted" = some (some (.ref f11)))
    (l11 : K.lookup f11 = some ⟨oc11, od11, .func (PySem.W.fnOf "is_granted" "is_granted" (defArgs sGranted) (defBody sGranted) (defScope sGranted) .none kV11 dc11 pm11 an11 cd11 ct11), sl11⟩)
    (c11 : PySem.W.codeIn K cd11 "is_granted" = true)
    (k11 : PySem.W.keepIn K (.ref f11) = true)
    (a12 : PySem.W.nsIn K mainGlobals "bond" = some (some (.ref f12)))
    (l12 : K.lookup f12 = some ⟨oc12, od12, .func (PySem.W.fnOf "bond" "bond" (defArgs sBond) (defBody sBond) (defScope sBond) .none kV12 dc12 pm12 an12 cd12 ct12), sl12⟩)
    (c12 : PySem.W.codeIn K cd12 "bond" = true)
    (k12 : PySem.W.keepIn K (.ref f12) = true)
    (a13 : PySem.W.nsIn K mainGlobals "is_triple" = some (some (.ref f13)))
    (l13 : K.lookup f13 = some ⟨oc13, od13, .func (PySem.W.fnOf "is_triple" "is_triple" (defArgs sIsTri) (defBody sIsTri) (defScope sIsTri) .none kV13 dc13 pm13 an13 cd13 ct13), sl13⟩)
    (c13 : PySem.W.codeIn K cd13 "is_triple" = true)
    (k13 : PySem.W.keepIn K (.ref f13) = true)
    (a14 : PySem.W.nsIn K mainGlobals "has_answers" = some (some (.ref f14)))
    (l14 : K.lookup f14 = some ⟨oc14, od14, .func (PySem.W.fnOf "has_answers" "has_answers" (defArgs sHasA) (defBody sHasA) (defScope sHasA) .none kV14 dc14 pm14 an14 cd14 ct14), sl14⟩)
    (c14 : PySem.W.codeIn K cd14 "has_answers" = true)
    (k14 : PySem.W.keepIn K (.ref f14) = true)
    (a15 : PySem.W.nsIn K mainGlobals "is_bond" = some (some (.ref f15)))
    (l15 : K.lookup f15 = some ⟨oc15, od15, .func (PySem.W.fnOf "is_bond" "is_bond" (defArgs sIsBond) (defBody sIsBond) (defScope sIsBond) .none kV15 dc15 pm15 an15 cd15 ct15), sl15⟩)
    (c15 : PySem.W.codeIn K cd15 "is_bond" = true)
    (k15 : PySem.W.keepIn K (.ref f15) = true)
    (a16 : PySem.W.nsIn K mainGlobals "_law_ty_type" = some (some (.ref f16)))
    (l16 : K.lookup f16 = some ⟨oc16, od16, .func (PySem.W.fnOf "_law_ty_type" "_law_ty_type" (defArgs sLawType) (defBody sLawType) (defScope sLawType) .none kV16 dc16 pm16 an16 cd16 ct16), sl16⟩)
    (c16 : PySem.W.codeIn K cd16 "_law_ty_type" = true)
    (k16 : PySem.W.keepIn K (.ref f16) = true)
    (a17 : PySem.W.nsIn K mainGlobals "_law_begun" = some (some (.ref f17)))
    (l17 : K.lookup f17 = some ⟨oc17, od17, .func (PySem.W.fnOf "_law_begun" "_law_begun" (defArgs sBegun) (defBody sBegun) (defScope sBegun) .none kV17 dc17 pm17 an17 cd17 ct17), sl17⟩)
    (c17 : PySem.W.codeIn K cd17 "_law_begun" = true)
    (k17 : PySem.W.keepIn K (.ref f17) = true)
    (a18 : PySem.W.nsIn K mainGlobals "_law_mixed" = some (some (.ref f18)))
    (l18 : K.lookup f18 = some ⟨oc18, od18, .func (PySem.W.fnOf "_law_mixed" "_law_mixed" (defArgs sMixed) (defBody sMixed) (defScope sMixed) .none kV18 dc18 pm18 an18 cd18 ct18), sl18⟩)
    (c18 : PySem.W.codeIn K cd18 "_law_mixed" = true)
    (k18 : PySem.W.keepIn K (.ref f18) = true)
    (a19 : PySem.W.nsIn K mainGlobals "_law_draw" = some (some (.ref f19)))
    (l19 : K.lookup f19 = some ⟨oc19, od19, .func (PySem.W.fnOf "_law_draw" "_law_draw" (defArgs sDraw) (defBody sDraw) (defScope sDraw) .none kV19 dc19 pm19 an19 cd19 ct19), sl19⟩)
    (c19 : PySem.W.codeIn K cd19 "_law_draw" = true)
    (k19 : PySem.W.keepIn K (.ref f19) = true)
    (a20 : PySem.W.nsIn K mainGlobals "_law_pick" = some (some (.ref f20)))
    (l20 : K.lookup f20 = some ⟨oc20, od20, .func (PySem.W.fnOf "_law_pick" "_law_pick" (defArgs sPick) (defBody sPick) (defScope sPick) .none kV20 dc20 pm20 an20 cd20 ct20), sl20⟩)
    (c20 : PySem.W.codeIn K cd20 "_law_pick" = true)
    (k20 : PySem.W.keepIn K (.ref f20) = true)
    (a21 : PySem.W.nsIn K mainGlobals "_law_plain" = some (some (.ref f21)))
    (l21 : K.lookup f21 = some ⟨oc21, od21, .func (PySem.W.fnOf "_law_plain" "_law_plain" (defArgs sPlain) (defBody sPlain) (defScope sPlain) .none kV21 dc21 pm21 an21 cd21 ct21), sl21⟩)
    (c21 : PySem.W.codeIn K cd21 "_law_plain" = true)
    (k21 : PySem.W.keepIn K (.ref f21) = true)
    (a22 : PySem.W.nsIn K mainGlobals "_law_is" = some (some (.ref f22)))
    (l22 : K.lookup f22 = some ⟨oc22, od22, .func (PySem.W.fnOf "_law_is" "_law_is" (defArgs sIs) (defBody sIs) (defScope sIs) .none kV22 dc22 pm22 an22 cd22 ct22), sl22⟩)
    (c22 : PySem.W.codeIn K cd22 "_law_is" = true)
    (k22 : PySem.W.keepIn K (.ref f22) = true)
    (a23 : PySem.W.nsIn K mainGlobals "_law_caught" = some (some (.ref f23)))
    (l23 : K.lookup f23 = some ⟨oc23, od23, .func (PySem.W.fnOf "_law_caught" "_law_caught" (defArgs sCaught) (defBody sCaught) (defScope sCaught) .none kV23 dc23 pm23 an23 cd23 ct23), sl23⟩)
    (c23 : PySem.W.codeIn K cd23 "_law_caught" = true)
    (k23 : PySem.W.keepIn K (.ref f23) = true)
    (a24 : PySem.W.nsIn K mainGlobals "_law_mo_odd_word" = some (some (.ref f24)))
    (l24 : K.lookup f24 = some ⟨oc24, od24, .func (PySem.W.fnOf "_law_mo_odd_word" "_law_mo_odd_word" (defArgs sOdd) (defBody sOdd) (defScope sOdd) .none kV24 dc24 pm24 an24 cd24 ct24), sl24⟩)
    (c24 : PySem.W.codeIn K cd24 "_law_mo_odd_word" = true)
    (k24 : PySem.W.keepIn K (.ref f24) = true)
    (a25 : PySem.W.nsIn K mainGlobals "_law_ty_pair" = some (some (.ref f25)))
    (l25 : K.lookup f25 = some ⟨oc25, od25, .func (PySem.W.fnOf "_law_ty_pair" "_law_ty_pair" (defArgs sTyPair) (defBody sTyPair) (defScope sTyPair) .none kV25 dc25 pm25 an25 cd25 ct25), sl25⟩)
    (c25 : PySem.W.codeIn K cd25 "_law_ty_pair" = true)
    (k25 : PySem.W.keepIn K (.ref f25) = true)
    (a26 : PySem.W.nsIn K mainGlobals "_law_bd_granted" = some (some (.ref f26)))
    (l26 : K.lookup f26 = some ⟨oc26, od26, .func (PySem.W.fnOf "_law_bd_granted" "_law_bd_granted" (defArgs sLawGr) (defBody sLawGr) (defScope sLawGr) .none kV26 dc26 pm26 an26 cd26 ct26), sl26⟩)
    (c26 : PySem.W.codeIn K cd26 "_law_bd_granted" = true)
    (k26 : PySem.W.keepIn K (.ref f26) = true)
    (a27 : PySem.W.nsIn K mainGlobals "_law_bd_is" = some (some (.ref f27)))
    (l27 : K.lookup f27 = some ⟨oc27, od27, .func (PySem.W.fnOf "_law_bd_is" "_law_bd_is" (defArgs sLawBd) (defBody sLawBd) (defScope sLawBd) .none kV27 dc27 pm27 an27 cd27 ct27), sl27⟩)
    (c27 : PySem.W.codeIn K cd27 "_law_bd_is" = true)
    (k27 : PySem.W.keepIn K (.ref f27) = true)
    (a28 : PySem.W.nsIn K mainGlobals "law" = some (some (.ref f28)))
    (l28 : K.lookup f28 = some ⟨oc28, od28, .func (PySem.W.fnOf "law" "law" (defArgs sLaw) (defBody sLaw) (defScope sLaw) .none kV28 dc28 pm28 an28 (.ref cL) ct28), sl28⟩)
    (c28 : PySem.W.codeIn K (.ref cL) "law" = true)
    (k28 : PySem.W.keepIn K (.ref f28) = true)
    (aC : PySem.W.nsIn K mainGlobals "Types" = some (some (.ref C)))
    (am0 : PySem.W.findIn K (.ref C) "__init__" = some (some (.ref fm0)))
    (im0 : PySem.W.isFn K (.ref fm0) = true)
    (lm0 : K.lookup fm0 = some ⟨ocm0, odm0, .func (PySem.W.fnOf "__init__" "Types.__init__" (defArgs sInit) (defBody sInit) (defScope sInit) .none kVm0 dcm0 pmm0 anm0 cdm0 ctm0), slm0⟩)
    (cm0 : PySem.W.codeIn K cdm0 "Types.__init__" = true)
    (km0 : PySem.W.keepIn K (.ref fm0) = true)
    (am1 : PySem.W.findIn K (.ref C) "lot" = some (some (.ref fm1)))
    (im1 : PySem.W.isFn K (.ref fm1) = true)
    (lm1 : K.lookup fm1 = some ⟨ocm1, odm1, .func (PySem.W.fnOf "lot" "Types.lot" (defArgs sLot) (defBody sLot) (defScope sLot) .none kVm1 dcm1 pmm1 anm1 cdm1 ctm1), slm1⟩)
    (cm1 : PySem.W.codeIn K cdm1 "Types.lot" = true)
    (km1 : PySem.W.keepIn K (.ref fm1) = true)
    (am2 : PySem.W.findIn K (.ref C) "number" = some (some (.ref fm2)))
    (im2 : PySem.W.isFn K (.ref fm2) = true)
    (lm2 : K.lookup fm2 = some ⟨ocm2, odm2, .func (PySem.W.fnOf "number" "Types.number" (defArgs sNumber) (defBody sNumber) (defScope sNumber) .none kVm2 dcm2 pmm2 anm2 cdm2 ctm2), slm2⟩)
    (cm2 : PySem.W.codeIn K cdm2 "Types.number" = true)
    (km2 : PySem.W.keepIn K (.ref fm2) = true)
    (am3 : PySem.W.findIn K (.ref C) "are_alike" = some (some (.ref fm3)))
    (im3 : PySem.W.isFn K (.ref fm3) = true)
    (lm3 : K.lookup fm3 = some ⟨ocm3, odm3, .func (PySem.W.fnOf "are_alike" "Types.are_alike" (defArgs sAlike) (defBody sAlike) (defScope sAlike) .none kVm3 dcm3 pmm3 anm3 cdm3 ctm3), slm3⟩)
    (cm3 : PySem.W.codeIn K cdm3 "Types.are_alike" = true)
    (km3 : PySem.W.keepIn K (.ref fm3) = true)
    (pgC : PySem.W.plainGet K C Str.empty = true)
    (hdC : PySem.W.hasDictIn K C = true)
    (poC : PySem.W.plainOver K C = true)
    (saC : PySem.W.findIn K (.ref C) "__setattr__" = some (some (.builtin "object.__setattr__")))
    (mkC : PySem.W.makesIn K C = true)
    (kcC : PySem.W.keepIn K (.ref C) = true)
    (nWC : PySem.W.findIn K (.ref C) "by_word" = some none)
    (nLC : PySem.W.findIn K (.ref C) "by_lot" = some none)
    (kd : PySem.W.nsIn K Dk "most" = some (some (.int 20000 tM)))
    (zs : PySem.W.nsIn K mainGlobals "SMALL" = some (some (.str "abcdefghijklmnopqrstuvwxyz" tS)))
    (zl : PySem.W.nsIn K mainGlobals "MOST_LETTERS" = some (some (.int 4 tL)))
    (zt : PySem.W.nsIn K mainGlobals "MOST_ROUNDS" = some (some (.int 4 tT)))
    (zo : PySem.W.nsIn K mainGlobals "LONGEST_TYPED" = some (some (.int 12 tO)))
    (z_isinstance : PySem.W.nsIn K mainGlobals "isinstance" = some none)
    (z_str : PySem.W.nsIn K mainGlobals "str" = some none)
    (z_int : PySem.W.nsIn K mainGlobals "int" = some none)
    (z_list : PySem.W.nsIn K mainGlobals "list" = some none)
    (z_tuple : PySem.W.nsIn K mainGlobals "tuple" = some none)
    (z_dict : PySem.W.nsIn K mainGlobals "dict" = some none)
    (z_len : PySem.W.nsIn K mainGlobals "len" = some none)
    (z_all : PySem.W.nsIn K mainGlobals "all" = some none)
    (z_any : PySem.W.nsIn K mainGlobals "any" = some none)
    (z_zip : PySem.W.nsIn K mainGlobals "zip" = some none)
    (z_sorted : PySem.W.nsIn K mainGlobals "sorted" = some none)
    (z_abs : PySem.W.nsIn K mainGlobals "abs" = some none)
    (z_range : PySem.W.nsIn K mainGlobals "range" = some none)
    (z_min : PySem.W.nsIn K mainGlobals "min" = some none)
    (z_repr : PySem.W.nsIn K mainGlobals "repr" = some none)
    (z_bool : PySem.W.nsIn K mainGlobals "bool" = some none)
    (z_set : PySem.W.nsIn K mainGlobals "set" = some none)
    (z_enumerate : PySem.W.nsIn K mainGlobals "enumerate" = some none)
    (z_max : PySem.W.nsIn K mainGlobals "max" = some none)
    (lT : K.lookup cL = some ⟨ocT, odT, .fields vsT, slT⟩)
    (vT : (vsT[11]? : Option Value) = some (.ref Pt))
    (nT : K.lookup Pt = none)
    (aS : PySem.W.nsIn K mainGlobals "SwingError" = some (some (.ref CS)))
    (bS : PySem.W.subIn K (.ref CS) (.type "BaseException") = some true)
    (tS2 : PySem.W.typeIn K (.ref CS) = some (.type "type"))
    (iS : PySem.W.isClsIn K CS = true)
    (aN : PySem.W.nsIn K mainGlobals "NoLetters" = some (some (.ref CN)))
    (xN : PySem.W.excIn K CN veB "ValueError.__new__" = true)
    (kkN : PySem.W.keepIn K (.ref CN) = true)
    (bN : PySem.W.subIn K (.ref CN) (.type "BaseException") = some true)
    (tN : PySem.W.typeIn K (.ref CN) = some (.type "type"))
    (sN : PySem.W.subIn K (.ref CN) (.ref CS) = some true)
    (iN : PySem.W.isClsIn K CN = true)
    (gN : PySem.W.findIn K (.ref CN) "__getattribute__" = some (some (.builtin "BaseException.__getattribute__")))
    (hN : PySem.W.findIn K (.ref CN) "__getattr__" = some none)
    (dN : PySem.W.hasDictIn K CN = true)
    (ccN : PySem.W.findIn K (.ref CN) "__class__" = some (some (.builtin "object.__class__")))
    (moN : PySem.W.mroIn K CN (.type "object") = some true)
    (aM : PySem.W.nsIn K mainGlobals "NoNumber" = some (some (.ref CM)))
    (xM : PySem.W.excIn K CM veB "ValueError.__new__" = true)
    (kkM : PySem.W.keepIn K (.ref CM) = true)
    (bM : PySem.W.subIn K (.ref CM) (.type "BaseException") = some true)
    (tM : PySem.W.typeIn K (.ref CM) = some (.type "type"))
    (sM : PySem.W.subIn K (.ref CM) (.ref CS) = some true)
    (iM : PySem.W.isClsIn K CM = true)
    (gM : PySem.W.findIn K (.ref CM) "__getattribute__" = some (some (.builtin "BaseException.__getattribute__")))
    (hM : PySem.W.findIn K (.ref CM) "__getattr__" = some none)
    (dM : PySem.W.hasDictIn K CM = true)
    (ccM : PySem.W.findIn K (.ref CM) "__class__" = some (some (.builtin "object.__class__")))
    (moM : PySem.W.mroIn K CM (.type "object") = some true)
    (aW : PySem.W.nsIn K mainGlobals "NoWord" = some (some (.ref CW)))
    (xW : PySem.W.excIn K CW veB "ValueError.__new__" = true)
    (kkW : PySem.W.keepIn K (.ref CW) = true)
    (bW : PySem.W.subIn K (.ref CW) (.type "BaseException") = some true)
    (tW : PySem.W.typeIn K (.ref CW) = some (.type "type"))
    (sW : PySem.W.subIn K (.ref CW) (.ref CS) = some true)
    (iW : PySem.W.isClsIn K CW = true)
    (gW : PySem.W.findIn K (.ref CW) "__getattribute__" = some (some (.builtin "BaseException.__getattribute__")))
    (hW : PySem.W.findIn K (.ref CW) "__getattr__" = some none)
    (dW : PySem.W.hasDictIn K CW = true)
    (ccW : PySem.W.findIn K (.ref CW) "__class__" = some (some (.builtin "object.__class__")))
    (moW : PySem.W.mroIn K CW (.type "object") = some true)
    (sp0 : PySem.W.specialIn K (.builtin "object.__class__") "__get__" = some (some (.builtin "getset_descriptor.__get__")))
    (tk0 : PySem.W.takesIn K (.builtin "object.__class__") = some true)
    : LawG l w K 24 63 "script" mg fa h := by
  have e := hfa.symm.trans (PySem.W.mg_of X G a28)
  cases e
  have B : Blt mg := ⟨PySem.W.mg_none_of X G z_isinstance, PySem.W.mg_none_of X G z_str, PySem.W.mg_none_of X G z_int, PySem.W.mg_none_of X G z_list, PySem.W.mg_none_of X G z_tuple, PySem.W.mg_none_of X G z_dict, PySem.W.mg_none_of X G z_len, PySem.W.mg_none_of X G z_all, PySem.W.mg_none_of X G z_any, PySem.W.mg_none_of X G z_zip, PySem.W.mg_none_of X G z_sorted, PySem.W.mg_none_of X G z_abs, PySem.W.mg_none_of X G z_range, PySem.W.mg_none_of X G z_min, PySem.W.mg_none_of X G z_repr, PySem.W.mg_none_of X G z_bool, PySem.W.mg_none_of X G z_set, PySem.W.mg_none_of X G z_enumerate, PySem.W.mg_none_of X G z_max, ⟨_, PySem.W.mg_of X G zs⟩, ⟨_, PySem.W.mg_of X G zl⟩, ⟨_, PySem.W.mg_of X G zt⟩, ⟨_, PySem.W.mg_of X G zo⟩⟩
  have mgN := PySem.W.mg_of X G aN
  have eN := exm_by bS iS tS2 sN
  have EN : ErrC K mg "NoLetters" CN CS := ⟨mgN, xN, kkN, bN, tN, eN⟩
  have SN : SeenC K CN CS := ⟨eN, ⟨gN, hN, bN, dN, ccN, sp0, tk0, moN⟩, kit_self⟩
  have mgM := PySem.W.mg_of X G aM
  have eM := exm_by bS iS tS2 sM
  have EM : ErrC K mg "NoNumber" CM CS := ⟨mgM, xM, kkM, bM, tM, eM⟩
  have SM : SeenC K CM CS := ⟨eM, ⟨gM, hM, bM, dM, ccM, sp0, tk0, moM⟩, kit_self⟩
  have mgW := PySem.W.mg_of X G aW
  have eW := exm_by bS iS tS2 sW
  have EW : ErrC K mg "NoWord" CW CS := ⟨mgW, xW, kkW, bW, tW, eW⟩
  have SW : SeenC K CW CS := ⟨eW, ⟨gW, hW, bW, dW, ccW, sp0, tk0, moW⟩, kit_self⟩
  have F0 := fun_mk (st := sIsNum) l0 c0 k0
  have D0 : Def mg K "is_number" f0 _ ["thing", "least", "most"] := ⟨PySem.W.mg_of X G a0, k0, F0.binds (ps := ["thing", "least", "most"]) fun _ _ _ _ _ _ us hl => match us, hl with | [_, _, _], _ => rfl⟩
  have F1 := fun_mk (st := sIsL) l1 c1 k1
  have D1 : Def mg K "is_letters" f1 _ ["thing"] := ⟨PySem.W.mg_of X G a1, k1, F1.binds (ps := ["thing"]) fun _ _ _ _ _ _ us hl => match us, hl with | [_], _ => rfl⟩
  have F2 := fun_mk (st := sNeedL) l2 c2 k2
  have D2 : Def mg K "need_letters" f2 _ ["thing"] := ⟨PySem.W.mg_of X G a2, k2, F2.binds (ps := ["thing"]) fun _ _ _ _ _ _ us hl => match us, hl with | [_], _ => rfl⟩
  have F3 := fun_mk (st := sIsW) l3 c3 k3
  have D3 : Def mg K "is_word_to" f3 _ ["letters", "thing", "most"] := ⟨PySem.W.mg_of X G a3, k3, F3.binds (ps := ["letters", "thing", "most"]) fun _ _ _ _ _ _ us hl => match us, hl with | [_, _, _], _ => rfl⟩
  have F5 := fun_mk (st := sNeedN) l5 c5 k5
  have D5 : Def mg K "need_number" f5 _ ["thing", "least", "most"] := ⟨PySem.W.mg_of X G a5, k5, F5.binds (ps := ["thing", "least", "most"]) fun _ _ _ _ _ _ us hl => match us, hl with | [_, _, _], _ => rfl⟩
  have F6 := fun_mk (st := sParts) l6 c6 k6
  have D6 : Def mg K "parts_at" f6 _ ["one", "at", "other", "there"] := ⟨PySem.W.mg_of X G a6, k6, F6.binds (ps := ["one", "at", "other", "there"]) fun _ _ _ _ _ _ us hl => match us, hl with | [_, _, _, _], _ => rfl⟩
  have F7 := fun_mk (st := sPlaces) l7 c7 k7
  have D7 : Def mg K "places_with" f7 _ ["word", "letter"] := ⟨PySem.W.mg_of X G a7, k7, F7.binds (ps := ["word", "letter"]) fun _ _ _ _ _ _ us hl => match us, hl with | [_, _], _ => rfl⟩
  have F8 := fun_mk (st := sGame) l8 c8 k8
  have D8 : Def mg K "need_game" f8 _ ["letters", "n", "one", "other"] := ⟨PySem.W.mg_of X G a8, k8, F8.binds (ps := ["letters", "n", "one", "other"]) fun _ _ _ _ _ _ us hl => match us, hl with | [_, _, _, _], _ => rfl⟩
  have F9 := fun_mk (st := sLeastA) l9 c9 k9
  have D9 : Def mg K "least_answer" f9 _ ["types", "n", "mine", "at", "its"] := ⟨PySem.W.mg_of X G a9, k9, F9.binds (ps := ["types", "n", "mine", "at", "its"]) fun _ _ _ _ _ _ us hl => match us, hl with | [_, _, _, _, _], _ => rfl⟩
  have F10 := fun_mk (st := sAsked) l10 c10 k10
  have D10 : Def mg K "asked_triples" f10 _ ["types", "triple"] := ⟨PySem.W.mg_of X G a10, k10, F10.binds (ps := ["types", "triple"]) fun _ _ _ _ _ _ us hl => match us, hl with | [_, _], _ => rfl⟩
  have F11 := fun_mk (st := sGranted) l11 c11 k11
  have D11 : Def mg K "is_granted" f11 _ ["triple", "known"] := ⟨PySem.W.mg_of X G a11, k11, F11.binds (ps := ["triple", "known"]) fun _ _ _ _ _ _ us hl => match us, hl with | [_, _], _ => rfl⟩
  have F12 := fun_mk (st := sBond) l12 c12 k12
  have D12 : Def mg K "bond" f12 _ ["letters", "n", "one", "other"] := ⟨PySem.W.mg_of X G a12, k12, F12.binds (ps := ["letters", "n", "one", "other"]) fun _ _ _ _ _ _ us hl => match us, hl with | [_, _, _, _], _ => rfl⟩
  have F13 := fun_mk (st := sIsTri) l13 c13 k13
  have D13 : Def mg K "is_triple" f13 _ ["letters", "thing"] := ⟨PySem.W.mg_of X G a13, k13, F13.binds (ps := ["letters", "thing"]) fun _ _ _ _ _ _ us hl => match us, hl with | [_, _], _ => rfl⟩
  have F14 := fun_mk (st := sHasA) l14 c14 k14
  have D14 : Def mg K "has_answers" f14 _ ["n", "one", "other", "known", "is_first"] := ⟨PySem.W.mg_of X G a14, k14, F14.binds (ps := ["n", "one", "other", "known", "is_first"]) fun _ _ _ _ _ _ us hl => match us, hl with | [_, _, _, _, _], _ => rfl⟩
  have F15 := fun_mk (st := sIsBond) l15 c15 k15
  have D15 : Def mg K "is_bond" f15 _ ["letters", "n", "one", "other", "thing"] := ⟨PySem.W.mg_of X G a15, k15, F15.binds (ps := ["letters", "n", "one", "other", "thing"]) fun _ _ _ _ _ _ us hl => match us, hl with | [_, _, _, _, _], _ => rfl⟩
  have F16 := fun_mk (st := sLawType) l16 c16 k16
  have D16 : Def mg K "_law_ty_type" f16 _ ["n", "word", "met"] := ⟨PySem.W.mg_of X G a16, k16, F16.binds (ps := ["n", "word", "met"]) fun _ _ _ _ _ _ us hl => match us, hl with | [_, _, _], _ => rfl⟩
  have F17 := fun_mk (st := sBegun) l17 c17 k17
  have D17 : Def mg K "_law_begun" f17 _ ["script"] := ⟨PySem.W.mg_of X G a17, k17, F17.binds (ps := ["script"]) fun _ _ _ _ _ _ us hl => match us, hl with | [_], _ => rfl⟩
  have F18 := fun_mk (st := sMixed) l18 c18 k18
  have D18 : Def mg K "_law_mixed" f18 _ ["state"] := ⟨PySem.W.mg_of X G a18, k18, F18.binds (ps := ["state"]) fun _ _ _ _ _ _ us hl => match us, hl with | [_], _ => rfl⟩
  have F19 := fun_mk (st := sDraw) l19 c19 k19
  have D19 : Def mg K "_law_draw" f19 _ ["state", "room"] := ⟨PySem.W.mg_of X G a19, k19, F19.binds (ps := ["state", "room"]) fun _ _ _ _ _ _ us hl => match us, hl with | [_, _], _ => rfl⟩
  have F20 := fun_mk (st := sPick) l20 c20 k20
  have D20 : Def mg K "_law_pick" f20 _ ["state", "some"] := ⟨PySem.W.mg_of X G a20, k20, F20.binds (ps := ["state", "some"]) fun _ _ _ _ _ _ us hl => match us, hl with | [_, _], _ => rfl⟩
  have F21 := fun_mk (st := sPlain) l21 c21 k21
  have D21 : Def mg K "_law_plain" f21 _ ["value"] := ⟨PySem.W.mg_of X G a21, k21, F21.binds (ps := ["value"]) fun _ _ _ _ _ _ us hl => match us, hl with | [_], _ => rfl⟩
  have F22 := fun_mk (st := sIs) l22 c22 k22
  have D22 : Def mg K "_law_is" f22 _ ["found", "due"] := ⟨PySem.W.mg_of X G a22, k22, F22.binds (ps := ["found", "due"]) fun _ _ _ _ _ _ us hl => match us, hl with | [_, _], _ => rfl⟩
  have F23 := fun_mk (st := sCaught) l23 c23 k23
  have D23 : Def mg K "_law_caught" f23 _ ["action"] := ⟨PySem.W.mg_of X G a23, k23, F23.binds (ps := ["action"]) fun _ _ _ _ _ _ us hl => match us, hl with | [_], _ => rfl⟩
  have F24 := fun_mk (st := sOdd) l24 c24 k24
  have D24 : Def mg K "_law_mo_odd_word" f24 _ ["state", "letters"] := ⟨PySem.W.mg_of X G a24, k24, F24.binds (ps := ["state", "letters"]) fun _ _ _ _ _ _ us hl => match us, hl with | [_, _], _ => rfl⟩
  have F25 := fun_mk (st := sTyPair) l25 c25 k25
  have D25 : Def mg K "_law_ty_pair" f25 _ ["state", "letters", "most"] := ⟨PySem.W.mg_of X G a25, k25, F25.binds (ps := ["state", "letters", "most"]) fun _ _ _ _ _ _ us hl => match us, hl with | [_, _, _], _ => rfl⟩
  have F26 := fun_mk (st := sLawGr) l26 c26 k26
  have D26 : Def mg K "_law_bd_granted" f26 _ ["triple", "known"] := ⟨PySem.W.mg_of X G a26, k26, F26.binds (ps := ["triple", "known"]) fun _ _ _ _ _ _ us hl => match us, hl with | [_, _], _ => rfl⟩
  have F27 := fun_mk (st := sLawBd) l27 c27 k27
  have D27 : Def mg K "_law_bd_is" f27 _ ["letters", "n", "one", "other", "value"] := ⟨PySem.W.mg_of X G a27, k27, F27.binds (ps := ["letters", "n", "one", "other", "value"]) fun _ _ _ _ _ _ us hl => match us, hl with | [_, _, _, _, _], _ => rfl⟩
  have Fm0 := fun_mk (st := sInit) lm0 cm0 km0
  have bm0 := Fm0.binds (ps := ["self"]) fun _ _ _ _ _ _ us hl => match us, hl with | [_], _ => rfl
  have Fm1 := fun_mk (st := sLot) lm1 cm1 km1
  have bm1 := Fm1.binds (ps := ["self", "n", "word"]) fun _ _ _ _ _ _ us hl => match us, hl with | [_, _, _], _ => rfl
  have Fm2 := fun_mk (st := sNumber) lm2 cm2 km2
  have bm2 := Fm2.binds (ps := ["self", "n", "word"]) fun _ _ _ _ _ _ us hl => match us, hl with | [_, _, _], _ => rfl
  have Fm3 := fun_mk (st := sAlike) lm3 cm3 km3
  have bm3 := Fm3.binds (ps := ["self", "n", "one", "other"]) fun _ _ _ _ _ _ us hl => match us, hl with | [_, _, _, _], _ => rfl
  have TK : TyC K mg C fm1 fm2 := ⟨⟨pgC, hdC, poC, saC⟩, nWC, nLC, ⟨am1, im1, km1⟩, ⟨am2, im2, km2⟩⟩
  have M : Mk K C fm0 := ⟨mkC, am0, im0, kcC⟩
  have F4 : FunD K "need_word" "need_word" (defArgs sNeedW) (defBody sNeedW) (defScope sNeedW) [] [("most", .int 20000)] f4 _ := ⟨⟨_, _, _, _, _, _, _, _, _, _, rfl, l4, c4, .inl ⟨rfl, rfl⟩, .inr ⟨Dk, rfl, fun q hq => by cases List.mem_singleton.mp hq; exact ⟨_, kd, ⟨_, rfl⟩⟩⟩⟩, k4⟩
  have D4 : DefW mg K "need_word" f4 _ ["letters", "thing", "most"] := ⟨PySem.W.mg_of X G a4, k4, FunD.binds0 (ps := ["letters", "thing", "most"]) F4 2 (by simp) rfl fun _ _ _ _ _ _ us ks hl h2 => match us, ks, hl, h2 with | [_, _], [_], _, _ => ⟨_, _, _, _, _, _, rfl, rfl, rfl⟩⟩
  have KW : KBinds K (PySem.W.fnOf "need_word" "need_word" (defArgs sNeedW) (defBody sNeedW) (defScope sNeedW) .none (.ref Dk) dc4 pm4 an4 cd4 ct4) ["letters", "thing", "most"] ["most"] kw3 kw3 := by
    refine ⟨fun s us ws _ hl => ?_, fun {vs us zs ws} r1 r2 => ?_⟩
    · rcases us with _ | ⟨u1, _ | ⟨u2, _ | ⟨u3, us⟩⟩⟩ <;> rcases ws with _ | ⟨w1, _ | ⟨w2, ws⟩⟩ <;> first | (exfalso; exact absurd (show (0 : Nat) = 3 from hl) (by decide)) | exact .of_eq rfl
    · cases r1 with
      | nil => exact .nil
      | cons a r1 => cases r1 with
        | nil => exact .nil
        | cons b r1 => cases r1 with
          | cons c r1 => exact .nil
          | nil => cases r2 with
            | nil => exact .nil
            | cons d r2 => cases r2 with
              | nil => exact .cons a (.cons b (.cons d .nil))
              | cons e r2 => exact .nil
  have KA : KBinds K (PySem.W.fnOf "bond" "bond" (defArgs sBond) (defBody sBond) (defScope sBond) .none kV12 dc12 pm12 an12 cd12 ct12) ["letters", "n", "one", "other"] ["other", "one", "n", "letters"] (fun us ws => us ++ ws.reverse) (fun us ws => us ++ ws.reverse) := by
    refine ⟨fun s us ws _ hl => ?_, fun r1 r2 => r1.append (vals_rev r2)⟩
    rw [List.length_append, List.length_reverse] at hl
    have hl2 : us.length + ws.length = 4 := hl
    rcases us with _ | ⟨u1, _ | ⟨u2, _ | ⟨u3, _ | ⟨u4, _ | ⟨u5, us⟩⟩⟩⟩⟩ <;> rcases ws with _ | ⟨w1, _ | ⟨w2, _ | ⟨w3, _ | ⟨w4, _ | ⟨w5, ws⟩⟩⟩⟩⟩ <;> first | (exfalso; simp only [List.length_cons, List.length_nil] at hl2; omega) | exact .of_eq rfl
  have CK : CaughtK K mg f23 := ⟨D23.g, D23.k, _, _, _, _, _, _, _, _, _, l23, c23, D23.b⟩
  have ht : PySem.W.tabIn K "law" = some (cL, Pt) := by
    unfold PySem.W.tabIn
    simp only [a28, l28, PySem.W.fnOf, lT, vT]
  obtain ⟨hc, hp⟩ := PySem.W.tab_of T X hrec ht
  refine ⟨PySem.W.fnOf "law" "law" (defArgs sLaw) (defBody sLaw) (defScope sLaw) .none kV28 dc28 pm28 an28 (.ref cL) ct28, [(cL, Pt)], spLaw K Pt, fun p hpm => ?_, fun p hpm => ?_, fun p hpm => ?_, fun s u => .of_eq rfl, fun H a ns hn _ ht hs => ?_, fun base KX NG TB => ?_⟩
  · cases List.mem_singleton.mp hpm
    exact hp
  · cases List.mem_singleton.mp hpm
    exact nT
  · cases List.mem_singleton.mp hpm
    exact hc
  · exact ⟨a, ns, rfl, hs, hn, ht (cL, Pt) List.mem_cons_self, fun _ => rfl⟩
  · have G1 := ok_isL (P := l.prog) (w := w) (base := base) F1 B
    have G2 := ok_needL (P := l.prog) (w := w) (base := base) F2 G1 D1 EN
    have G3 := ok_isW (P := l.prog) (w := w) (base := base) F3 B 
    have G4 := ok_needW (P := l.prog) (w := w) (base := base) F4 G3 D3 EW
    have G0 := ok_isNum (P := l.prog) (w := w) (base := base) F0 B 
    have G5 := ok_needR (lo := 0) (hi := 4) (P := l.prog) (w := w) (base := base) (.inr ⟨rfl, rfl⟩) F5 B EM G0 D0
    have Gy := oksLawType (P := l.prog) (w := w) (base := base) F16 B D16 3
    have GI := ok_init (P := l.prog) (w := w) (base := base) Fm0 TK
    have GN := (ok_both (P := l.prog) (w := w) (base := base) Fm1 Fm2 B TK bm1 bm2 8).2
    have GA := ok_are (P := l.prog) (w := w) (base := base) Fm3 TK GN bm2
    have G6 := ok_parts (mg := mg) (P := l.prog) (w := w) (base := base) F6 
    have G7 := ok_places (P := l.prog) (w := w) (base := base) F7 B 
    have G9 := ok_leastA (P := l.prog) (w := w) (base := base) F9 B TK ⟨am3, im3, km3⟩ GA bm3 G6 D6 G7 D7
    have G8 := ok_game (P := l.prog) (w := w) (base := base) F8 B G2 D2 G5 D5 G4 D4 KW
    have G10 := ok_asked (P := l.prog) (w := w) (base := base) F10 B G9 D9 G6 D6
    have G11 := ok_gr (mg := mg) (P := l.prog) (w := w) (base := base) F11 
    have G12 := ok_bond (P := l.prog) (w := w) (base := base) F12 B TK M (PySem.W.mg_of X G aC) ⟨am3, im3, km3⟩ GI bm0 GA bm3 G8 D8 G11 D11 G10 D10
    have G13 := ok_isTri (P := l.prog) (w := w) (base := base) F13 B G0 D0 G3 D3
    have G14 := ok_hasA (P := l.prog) (w := w) (base := base) F14 B G7 D7 G6 D6 G11 D11
    have G15 := ok_isBond (P := l.prog) (w := w) (base := base) F15 B G8 D8 G13 D13 G11 D11 G14 D14
    have G17 := ok_begun (P := l.prog) (w := w) (base := base) F17 B 
    have G18 := ok_mixed (P := l.prog) (w := w) (base := base) F18 B 
    have G19 := ok_draw (P := l.prog) (w := w) (base := base) F19 B G18 D18
    have G20 := ok_pick (P := l.prog) (w := w) (base := base) F20 B G19 D19
    have G21 := ok_plain (P := l.prog) (w := w) (base := base) F21 B D21 8
    have G22 := ok_isV (P := l.prog) (w := w) (base := base) F22 B G21 D21
    have G24 := ok_odd (P := l.prog) (w := w) (base := base) F24 G20 D20
    have G25 := ok_tyPair (P := l.prog) (w := w) (base := base) F25 B G19 D19 G20 D20
    have G26 := ok_lgr (mg := mg) (P := l.prog) (w := w) (base := base) F26 
    have G27 := ok_lawBd (P := l.prog) (w := w) (base := base) F27 B G26 D26
    exact ok_law l28 c28 B ⟨⟨_, _, D17, G17⟩, ⟨_, _, D19, G19⟩, ⟨_, _, D20, G20⟩, ⟨_, _, D24, G24⟩, ⟨_, _, D25, G25⟩, ⟨_, _, D21, G21⟩, ⟨_, _, D22, G22⟩, ⟨_, _, D16, Gy⟩, ⟨_, _, D27, G27⟩, ⟨_, _, D12, KA, G12⟩, ⟨_, _, D15, G15⟩⟩ CK (TB (cL, Pt) List.mem_cons_self) mgN mgM mgW (PySem.W.mg_of X G aS) SN SM SW
end SWL
set_option Elab.async false
set_option linter.all false
set_option maxRecDepth 100000
open PySem PySem.W PyProof.Rows
set_option maxHeartbeats 0 in
theorem PySem.Challenge.cw_swinglogic_k77_whole_bonds_of_the_second_holds : PySem.Challenge.rw_swinglogic_k77_whole_bonds_of_the_second.Holds := by
  w_on; o_law; k_head; (case hw => w_witness2)
  k_fill
  refine SWL.walk_ofG (l := PySem.Challenge.rw_swinglogic_k77_whole_bonds_of_the_second) (n := 63) (k := 24) (x := "script") rfl (by decide) rfl ⟨rfl, by decide, by decide⟩ (fun w h Y => PySem.W.km_in_of Y) ?F
  case F =>
    intro w mg fa h loose mean mb T Y KX G hmg
    refine' SWL.all_mk KX G T hmg ?hrec ?a0 ?l0 ?c0 ?k0 ?a1 ?l1 ?c1 ?k1 ?a2 ?l2 ?c2 ?k2 ?a3 ?l3 ?c3 ?k3 ?a4 ?l4 ?c4 ?k4 ?a5 ?l5 ?c5 ?k5 ?a6 ?l6 ?c6 ?k6 ?a7 ?l7 ?c7 ?k7 ?a8 ?l8 ?c8 ?k8 ?a9 ?l9 ?c9 ?k9 ?a10 ?l10 ?c10 ?k10 ?a11 ?l11 ?c11 ?k11 ?a12 ?l12 ?c12 ?k12 ?a13 ?l13 ?c13 ?k13 ?a14 ?l14 ?c14 ?k14 ?a15 ?l15 ?c15 ?k15 ?a16 ?l16 ?c16 ?k16 ?a17 ?l17 ?c17 ?k17 ?a18 ?l18 ?c18 ?k18 ?a19 ?l19 ?c19 ?k19 ?a20 ?l20 ?c20 ?k20 ?a21 ?l21 ?c21 ?k21 ?a22 ?l22 ?c22 ?k22 ?a23 ?l23 ?c23 ?k23 ?a24 ?l24 ?c24 ?k24 ?a25 ?l25 ?c25 ?k25 ?a26 ?l26 ?c26 ?k26 ?a27 ?l27 ?c27 ?k27 ?a28 ?l28 ?c28 ?k28 ?aC ?am0 ?im0 ?lm0 ?cm0 ?km0 ?am1 ?im1 ?lm1 ?cm1 ?km1 ?am2 ?im2 ?lm2 ?cm2 ?km2 ?am3 ?im3 ?lm3 ?cm3 ?km3 ?pgC ?hdC ?poC ?saC ?mkC ?kcC ?nWC ?nLC ?kd ?zs ?zl ?zt ?zo ?z_isinstance ?z_str ?z_int ?z_list ?z_tuple ?z_dict ?z_len ?z_all ?z_any ?z_zip ?z_sorted ?z_abs ?z_range ?z_min ?z_repr ?z_bool ?z_set ?z_enumerate ?z_max ?lT ?vT ?nT ?aS ?bS ?tS2 ?iS ?aN ?xN ?kkN ?bN ?tN ?sN ?iN ?gN ?hN ?dN ?ccN ?moN ?aM ?xM ?kkM ?bM ?tM ?sM ?iM ?gM ?hM ?dM ?ccM ?moM ?aW ?xW ?kkW ?bW ?tW ?sW ?iW ?gW ?hW ?dW ?ccW ?moW ?sp0 ?tk0
    (case hrec => first | rfl | kernel_rfl)
    (case a0 => k_is)
    (case l0 => k_is)
    (case c0 => k_is)
    (case k0 => k_is)
    (case a1 => k_is)
    (case l1 => k_is)
    (case c1 => k_is)
    (case k1 => k_is)
    (case a2 => k_is)
    (case l2 => k_is)
    (case c2 => k_is)
    (case k2 => k_is)
    (case a3 => k_is)
    (case l3 => k_is)
    (case c3 => k_is)
    (case k3 => k_is)
    (case a4 => k_is)
    (case l4 => k_is)
    (case c4 => k_is)
    (case k4 => k_is)
    (case a5 => k_is)
    (case l5 => k_is)
    (case c5 => k_is)
    (case k5 => k_is)
    (case a6 => k_is)
    (case l6 => k_is)
    (case c6 => k_is)
    (case k6 => k_is)
    (case a7 => k_is)
    (case l7 => k_is)
    (case c7 => k_is)
    (case k7 => k_is)
    (case a8 => k_is)
    (case l8 => k_is)
    (case c8 => k_is)
    (case k8 => k_is)
    (case a9 => k_is)
    (case l9 => k_is)
    (case c9 => k_is)
    (case k9 => k_is)
    (case a10 => k_is)
    (case l10 => k_is)
    (case c10 => k_is)
    (case k10 => k_is)
    (case a11 => k_is)
    (case l11 => k_is)
    (case c11 => k_is)
    (case k11 => k_is)
    (case a12 => k_is)
    (case l12 => k_is)
    (case c12 => k_is)
    (case k12 => k_is)
    (case a13 => k_is)
    (case l13 => k_is)
    (case c13 => k_is)
    (case k13 => k_is)
    (case a14 => k_is)
    (case l14 => k_is)
    (case c14 => k_is)
    (case k14 => k_is)
    (case a15 => k_is)
    (case l15 => k_is)
    (case c15 => k_is)
    (case k15 => k_is)
    (case a16 => k_is)
    (case l16 => k_is)
    (case c16 => k_is)
    (case k16 => k_is)
    (case a17 => k_is)
    (case l17 => k_is)
    (case c17 => k_is)
    (case k17 => k_is)
    (case a18 => k_is)
    (case l18 => k_is)
    (case c18 => k_is)
    (case k18 => k_is)
    (case a19 => k_is)
    (case l19 => k_is)
    (case c19 => k_is)
    (case k19 => k_is)
    (case a20 => k_is)
    (case l20 => k_is)
    (case c20 => k_is)
    (case k20 => k_is)
    (case a21 => k_is)
    (case l21 => k_is)
    (case c21 => k_is)
    (case k21 => k_is)
    (case a22 => k_is)
    (case l22 => k_is)
    (case c22 => k_is)
    (case k22 => k_is)
    (case a23 => k_is)
    (case l23 => k_is)
    (case c23 => k_is)
    (case k23 => k_is)
    (case a24 => k_is)
    (case l24 => k_is)
    (case c24 => k_is)
    (case k24 => k_is)
    (case a25 => k_is)
    (case l25 => k_is)
    (case c25 => k_is)
    (case k25 => k_is)
    (case a26 => k_is)
    (case l26 => k_is)
    (case c26 => k_is)
    (case k26 => k_is)
    (case a27 => k_is)
    (case l27 => k_is)
    (case c27 => k_is)
    (case k27 => k_is)
    (case a28 => k_is)
    (case l28 => k_is)
    (case c28 => k_is)
    (case k28 => k_is)
    (case aC => k_is)
    (case am0 => k_is)
    (case im0 => k_is)
    (case lm0 => k_is)
    (case cm0 => k_is)
    (case km0 => k_is)
    (case am1 => k_is)
    (case im1 => k_is)
    (case lm1 => k_is)
    (case cm1 => k_is)
    (case km1 => k_is)
    (case am2 => k_is)
    (case im2 => k_is)
    (case lm2 => k_is)
    (case cm2 => k_is)
    (case km2 => k_is)
    (case am3 => k_is)
    (case im3 => k_is)
    (case lm3 => k_is)
    (case cm3 => k_is)
    (case km3 => k_is)
    (case pgC => k_is)
    (case hdC => k_is)
    (case poC => k_is)
    (case saC => k_is)
    (case mkC => k_is)
    (case kcC => k_is)
    (case nWC => k_is)
    (case nLC => k_is)
    (case kd => k_is)
    (case zs => k_is)
    (case zl => k_is)
    (case zt => k_is)
    (case zo => k_is)
    (case z_isinstance => k_is)
    (case z_str => k_is)
    (case z_int => k_is)
    (case z_list => k_is)
    (case z_tuple => k_is)
    (case z_dict => k_is)
    (case z_len => k_is)
    (case z_all => k_is)
    (case z_any => k_is)
    (case z_zip => k_is)
    (case z_sorted => k_is)
    (case z_abs => k_is)
    (case z_range => k_is)
    (case z_min => k_is)
    (case z_repr => k_is)
    (case z_bool => k_is)
    (case z_set => k_is)
    (case z_enumerate => k_is)
    (case z_max => k_is)
    (case lT => k_is)
    (case vT => first | rfl | k_is)
    (case nT => first | kernel_rfl | rfl)
    (case aS => k_is)
    (case bS => k_is)
    (case tS2 => k_is)
    (case iS => k_is)
    (case aN => k_is)
    (case xN => k_exc)
    (case kkN => k_is)
    (case bN => k_is)
    (case tN => k_is)
    (case sN => k_is)
    (case iN => k_is)
    (case gN => k_is)
    (case hN => k_is)
    (case dN => k_is)
    (case ccN => k_is)
    (case moN => k_is)
    (case aM => k_is)
    (case xM => k_exc)
    (case kkM => k_is)
    (case bM => k_is)
    (case tM => k_is)
    (case sM => k_is)
    (case iM => k_is)
    (case gM => k_is)
    (case hM => k_is)
    (case dM => k_is)
    (case ccM => k_is)
    (case moM => k_is)
    (case aW => k_is)
    (case xW => k_exc)
    (case kkW => k_is)
    (case bW => k_is)
    (case tW => k_is)
    (case sW => k_is)
    (case iW => k_is)
    (case gW => k_is)
    (case hW => k_is)
    (case dW => k_is)
    (case ccW => k_is)
    (case moW => k_is)
    (case sp0 => k_is)
    (case tk0 => k_is)
