import PyProof.Rows.All
import Wide.All
import OpenK.AllK
import Wide.FinOn
import HandS.ForMost
import HandS.Exc
import HandS.ExcOwn
import HandS.ExcIs
import HandS.IsInst
import HandS.Lambda
import HandS.EndTab
import HandS.SortKw
import HandS.Defaults
import HandS.TupLe
import HandS.WordsExc
import HandS.Wide
import KE.SortKeyHeap
import KE.KDictKeyed
import KE.KDictSum
import KE.GoesNew
import PyProof.ListStr
import HandS.Walk
import HandS.Steps
import HandS.Style
import KE.GoesEnum
import KE.GoesMore
import PyProof.StrBlock2
import PyProof.CallFns
import HandS.StrMore
import HandS.Set
import HandS.SetFor
import KE.SortData
import HandS.SetKeys
import HandS.TupLen
import KE.KeyNested
import PySem.Challenge.RW_swinglogic_k36_whole_words_alike_by_turn
set_option Elab.async false
set_option linter.all false
set_option maxRecDepth 100000
set_option maxHeartbeats 4000000
namespace SWL
open PySem PySem.Spec PyProof.Rows L2
/-! repr of data, list of a text -/
/-- what repr asks of data: the around has no guard in hand -/
def askRepr (K : PySem.W.Frag) : List V → Hp → VK → Prop := fun xs H Q =>
  ∃ (a : Addr) (d : PyData), xs = [.ref a] ∧ Dp K H (.ref a) d ∧ d.showable = true ∧ d.hasDict = false ∧ d.depth ≤ 50 ∧ d.shown.length ≤ sizeLine ∧ Q (.str d.shown) H
section
variable {X : Cx}
theorem cr_repr (gd : X.A.guards = some []) (hu : X.A.units + 64 < cLine) : CallR X (.builtin "repr") (askRepr X.K) := by
  intro pins s σ H xs us Q I rel q
  obtain ⟨a, d, rfl, hd, hs, hn, hdep, hlen, q⟩ := q
  obtain ⟨u, rfl, ru⟩ := vals1 rel
  obtain ⟨as, rd⟩ := Dp.reads I d _ _ hd ru
  cases ru
  refine repr_of_reads' rd hs (PyData.noDict_hsm hn) gd (by omega) (fun _ _ e => e) (fun h' u' tk hk => ?_) hlen
  exact ⟨.str d.shown, H, I.kept hk, ⟨u', rfl⟩, q⟩
def signsV (z : Str) : List V := z.cps.toList.map fun c => V.str ⟨#[c]⟩
theorem signs_vals (z : Str) : ∀ (l : List Nat) (vs : List Value), vs.length = l.length → (∀ (i : Nat) (v : Value), vs[i]? = some v → ∃ c t, l[i]? = some c ∧ v = .str ⟨#[c]⟩ t) → Vals (l.map fun c => V.str ⟨#[c]⟩) vs
  | [], [], _, _ => .nil
  | [], _ :: _, h, _ => by simp at h
  | _ :: _, [], h, _ => by simp at h
  | c :: l, v :: vs, h, hv => by
    obtain ⟨c', t, h1, h2⟩ := hv 0 v rfl
    have e : c = c' := Option.some.inj h1
    subst e
    exact .cons ⟨t, h2⟩ (signs_vals z l vs (by simpa using h) fun i w hw => hv (i + 1) w hw)
theorem cr_listStr (hc : X.calm = true) : CallR X (.type "list") (fun xs H Q => ∃ z, xs = [.str z] ∧ z.length ≤ sizeLine ∧ ∀ p, H p = none → Q (.ref p) (upd H p (.lst (signsV z)))) := by
  intro pins s σ H xs us Q I rel q
  obtain ⟨z, rfl, hz, q⟩ := q
  obtain ⟨u, rfl, t, rfl⟩ := vals1 rel
  refine call_list_str (I.ok.hd hc) z t (fun h' tk acc' c' hk hget hit => ?_) hz
  have hlen : acc'.toList.length = z.cps.toList.length := by
    rw [Array.length_toList, Array.length_toList]
    exact hit.1
  have hv : Vals (signsV z) acc'.toList := by
    refine signs_vals z _ _ hlen fun i v hv => ?_
    obtain ⟨c, t', h1, h2⟩ := hit.2 i v (by rw [← Array.getElem?_toList]; exact hv)
    exact ⟨c, t', by rw [Array.getElem?_toList]; exact h1, h2⟩
  refine ⟨.ref s.heap.objs.size, _, I.laid (t' := tk) hk (Nat.le_refl _) (show ObjOk X.prog X.w _ h' _ (.lst (signsV z)) from ⟨?_, acc'.toList, c', hv, ?_⟩), rfl, q _ (I.hok.fresh (Nat.le_refl _))⟩
  · unfold signsV
    rw [List.length_map, Array.length_toList]
    exact hz
  · rw [Array.toArray_toList]
    exact hget
end
end SWL
set_option Elab.async false
set_option linter.all false
set_option maxRecDepth 100000
set_option maxHeartbeats 4000000
namespace SWL
open PySem PySem.Spec PyProof.Rows L2
/-! zip of two texts -/
/-- the pairs of two texts' signs, a new tuple each -/
def PairsS (x y : Str) : It :=
  ⟨fun i _ => i < min x.cps.size y.cps.size,
    fun i H v H' => ∃ (T : Addr) (c d : Nat), v = .ref T ∧ H T = none ∧ H' = upd H T (.tup [.str ⟨#[c]⟩, .str ⟨#[d]⟩]) ∧ x.cps[i]? = some c ∧ y.cps[i]? = some d,
    fun i _ => i = min x.cps.size y.cps.size⟩
theorem turnZipS {P : Program} {w : World} {K : PySem.W.Frag} {elts : List Expr} {kk : Nat} {tp : Pos} {N : Addr} (x y : Str) (t u : Tok) :
    Turn P w K (.Tuple elts kk tp) (PairsS x y) [N + 4, N + 2, N + 3, N, N + 1] (N + 4)
      (fun i h => IsZip h (N + 4) (N + 2) (N + 3) .none ∧ IsTupOf2 h (N + 2) (.ref N) (.ref (N + 1)) ∧ (∃ a b, IsTupOf2 h (N + 3) a b) ∧ h.IsStrIter N (strIterType x) x t i ∧ h.IsStrIter (N + 1) (strIterType y) y u i) where
  mem := by simp
  obj := fun i h st b hb => by
    obtain ⟨z1, z2, ⟨_, _, z3⟩, ⟨o4, z4, _, d4⟩, ⟨o5, z5, _, d5⟩⟩ := st
    rcases (by simpa using hb : b = N + 4 ∨ b = N + 2 ∨ b = N + 3 ∨ b = N ∨ b = N + 1) with e | e | e | e | e
    · exact ⟨_, by rw [e]; exact z1, fun v q => by cases q⟩
    · exact ⟨_, by rw [e]; exact z2, fun v q => by cases q⟩
    · exact ⟨_, by rw [e]; exact z3, fun v q => by cases q⟩
    · exact ⟨o4, by rw [e]; exact z4, fun v q => by rw [d4] at q; cases q⟩
    · exact ⟨o5, by rw [e]; exact z5, fun v q => by rw [d5] at q; cases q⟩
  keep := fun i h h' st hk => by
    obtain ⟨z1, z2, ⟨a, b, z3⟩, z4, z5⟩ := st
    exact ⟨hk _ (by simp) _ z1, hk _ (by simp) _ z2, ⟨a, b, hk _ (by simp) _ z3⟩, let ⟨o, e, r⟩ := z4; ⟨o, hk _ (by simp) o e, r⟩, let ⟨o, e, r⟩ := z5; ⟨o, hk _ (by simp) o e, r⟩⟩
  item := by
    intro X hP hw hK hc i pins s σ H E I hf st hg
    subst hP hw hK
    have hh : X.A.handled = none := I.ok.hd hc
    have D1 := Draws.text (prog := X.prog) (w := X.w) (A := X.A.in1) hh N x t
    have D2 := Draws.text (prog := X.prog) (w := X.w) (A := X.A.in1) hh (N + 1) y u
    have S : ZipSep2 (N + 4) (N + 2) (N + 3) N (N + 1) [N] [N + 1] := zip_sep2 (fp1 := []) (fp2 := []) (fun _ h => nomatch h) (fun _ h => nomatch h)
    have G := GoesN.zip2 (elts := elts) (x1 := kk) (pos := tp) S D1 D2
    refine G.goes i s _ E hg st fun v h' tk hY st' hk _ => ?_
    obtain ⟨T, a, b, rfl, hT, ⟨c, t1, hc1, rfl⟩, ⟨d, t2, hd1, rfl⟩, hTup⟩ := hY
    have fr : H T = none := I.hok.fresh hT
    refine ⟨.ref T, upd H T (.tup [.str ⟨#[c]⟩, .str ⟨#[d]⟩]), I.turnedNew (t' := tk) (ch := [N + 4, N + 3, N, N + 1]) hk (fun b hb => hf b ?_) hT ?_, rfl, ⟨T, c, d, rfl, fr, rfl, hc1, hd1⟩, st', fun b hb => ?_⟩
    · rcases (by simpa using hb : b = N + 4 ∨ b = N + 3 ∨ b = N ∨ b = N + 1) with e | e | e | e <;> simp [e]
    · exact ⟨by show 2 ≤ sizeLine; decide, _, .cons ⟨_, rfl⟩ (.cons ⟨_, rfl⟩ .nil), hTup⟩
    · have hlt : b < s.heap.objs.size := by
        obtain ⟨z1, z2, ⟨_, _, z3⟩, ⟨o4, z4, _⟩, ⟨o5, z5, _⟩⟩ := st
        rcases (by simpa using hb : b = N + 4 ∨ b = N + 2 ∨ b = N + 3 ∨ b = N ∨ b = N + 1) with e | e | e | e | e
        · rw [e]; exact Heap.lt_size z1
        · rw [e]; exact Heap.lt_size z2
        · rw [e]; exact Heap.lt_size z3
        · rw [e]; exact Heap.lt_size z4
        · rw [e]; exact Heap.lt_size z5
      rw [upd_ne (Nat.ne_of_lt (Nat.lt_of_lt_of_le hlt hT))]
      exact (hf b hb).1
  done := by
    intro X hP hw hK hc i pins s σ H E I hf st hg
    subst hP hw hK
    have hh : X.A.handled = none := I.ok.hd hc
    have D1 := Draws.text (prog := X.prog) (w := X.w) (A := X.A.in1) hh N x t
    have D2 := Draws.text (prog := X.prog) (w := X.w) (A := X.A.in1) hh (N + 1) y u
    have S : ZipSep2 (N + 4) (N + 2) (N + 3) N (N + 1) [N] [N + 1] := zip_sep2 (fp1 := []) (fp2 := []) (fun _ h => nomatch h) (fun _ h => nomatch h)
    have G := GoesN.zip2 (elts := elts) (x1 := kk) (pos := tp) S D1 D2
    have hi : i = min x.cps.size y.cps.size := hg
    rw [hi] at st
    refine G.stops s _ E st fun h' tk hk _ => ?_
    refine I.turnedL (t' := tk) (ch := [N + 4, N + 3, N, N + 1]) hk fun b hb => hf b ?_
    rcases (by simpa using hb : b = N + 4 ∨ b = N + 3 ∨ b = N ∨ b = N + 1) with e | e | e | e <;> simp [e]
  self := fun A i s Q E st h => wpAny_pyIter_zip st.1 h
def iZipS (ta : TA) : TI := fun σ H R => ta σ H fun vs H1 => ∃ x y, vs = [.str x, .str y] ∧ R (PairsS x y) H1
theorem pi_zipS {X : Cx} {e e2 : Expr} {ta : TA} {p pos tpos : Pos} {elts : List Expr} {kk : Nat} (hg : Gl X "zip") (hm : X.mg "zip" = none) (ha : PA X [e, e2] ta)
    (hs : starEach [e, e2] X.env = (false, eval e X.env) :: starEach [e2] X.env := by rfl) (hpl : (backTo pos (starEach [e2] X.env)).any (·.1) = false := by rfl) :
    PI X (.Tuple elts kk tpos) (.Call (.Name "zip" p) [e, e2] [] pos) (iZipS ta) := by
  refine ⟨fun pins s σ H R I h => Call_ (ld_blt I hg hm boot_zip (callWith_type1 (thn (ha.run pos pins s σ H _ I h) fun us s1 q => ?_) hs hpl))⟩
  obtain ⟨vs, H1, I1, rel, x, y, rfl, q⟩ := q
  obtain ⟨u1, u2, rfl, ⟨t1, rfl⟩, ⟨t2, rfl⟩⟩ := vals2 rel
  refine zip_begins2 (begins_text x t1) (begins_text y t2) trivial trivial fun h' z1 z2 z3 z4 z5 hsz hk => wpAny_pyIter_zip z1 ?_
  refine ⟨_, _, _, _, H1, rfl, I1.kept (t' := s1.toks) hk, turnZipS (N := s1.heap.objs.size) x y t1 t2, ⟨z1, z2, ⟨_, _, z3⟩, ⟨_, z4, rfl, rfl⟩, ⟨_, z5, rfl, rfl⟩⟩, fun b hb => ?_, q⟩
  have hle : s1.heap.objs.size ≤ b := by
    rcases (by simpa using hb : b = s1.heap.objs.size + 4 ∨ b = s1.heap.objs.size + 2 ∨ b = s1.heap.objs.size + 3 ∨ b = s1.heap.objs.size ∨ b = s1.heap.objs.size + 1) with e | e | e | e | e <;> rw [e] <;> first | exact Nat.le_add_right _ _ | exact Nat.le_refl _
  exact I1.fpOk hle (I1.hok.fresh hle)
end SWL
set_option Elab.async false
set_option linter.all false
set_option maxRecDepth 100000
set_option maxHeartbeats 4000000
namespace SWL
open PySem PySem.Spec PyProof.Rows L2
/-! an object that nobody tracked is tracked from now on; data under growth; sorted by data -/
def Grows (H H' : Hp) : Prop := ∀ b o, H b = some o → H' b = some o
theorem Grows.refl (H : Hp) : Grows H H := fun _ _ h => h
theorem Grows.trans {H H1 H2 : Hp} (a : Grows H H1) (b : Grows H1 H2) : Grows H H2 := fun c o h => b c o (a c o h)
theorem Grows.new {H : Hp} {p : Addr} {o : HO} (h : H p = none) : Grows H (upd H p o) := fun b u e => by
  rw [upd_ne (ne_of_none e h)]
  exact e
theorem Grows.rd {H H' : Hp} (g : Grows H H') {a : Addr} {u : HO} (r : Rd H a u) : Rd H' a u := by
  rcases r with r | ⟨o, r⟩
  · exact .inl (g _ _ r)
  · exact .inr ⟨o, g _ _ r⟩
theorem Grows.l {K : PySem.W.Frag} {H H' : Hp} (g : Grows H H') {a : Addr} {xs : List V} (h : SqL K H a xs) : SqL K H' a xs := h.imp g.rd id
theorem Grows.t {K : PySem.W.Frag} {H H' : Hp} (g : Grows H H') {a : Addr} {xs : List V} (h : SqT K H a xs) : SqT K H' a xs := h.imp g.rd id
mutual
theorem Grows.dp {K : PySem.W.Frag} {H H' : Hp} (g : Grows H H') : ∀ (d : PyData) (v : V), Dp K H v d → Dp K H' v d
  | .none, _, h => by cases h; exact .non
  | .bool _, _, h => by cases h; exact .bl _
  | .int _, _, h => by cases h; exact .int _
  | .str _, _, h => by cases h; exact .str _
  | .list ds, _, h => by
    cases h with
    | lst h1 h2 => exact .lst (g.l h1) (Grows.dps g ds _ h2)
  | .tuple ds, _, h => by
    cases h with
    | tup h1 h2 => exact .tup (g.t h1) (Grows.dps g ds _ h2)
  | .dict _, _, h => by cases h
theorem Grows.dps {K : PySem.W.Frag} {H H' : Hp} (g : Grows H H') : ∀ (ds : List PyData) (vs : List V), DpAll K H vs ds → DpAll K H' vs ds
  | [], _, h => by cases h; exact .nil
  | d :: ds, _, h => by
    cases h with
    | cons h1 h2 => exact .cons (Grows.dp g d _ h1) (Grows.dps g ds _ h2)
end
section
variable {X : Cx} {pins : List (Addr × Obj)} {σ : L2.St} {H : Hp} {s : Shared}
theorem track {a : Addr} {o : HO} (I : Inv X pins σ H s) (f : FpOk X pins H a) (h0 : X.s_0.heap.objs.size ≤ a) (new : ObjOk X.prog X.w (upd H a o) s.heap a o) : Inv X pins σ (upd H a o) s := by
  obtain ⟨hn, hL, _, _, hc, hp⟩ := f
  have ne : ∀ b u, H b = some u → b ≠ a := fun b u e => ne_of_none e hn
  refine ⟨I.ok, I.os, I.bare, ⟨I.base.keep, I.base.slot, fun b u e n hx => ?_, I.base.there, fun b xs e => ?_, fun b u xs e => ?_, fun b ps e => ?_⟩, I.loc, I.cell, ?_, fun x c e => ?_, fun p hq => ?_, fun b u e => ?_, I.len⟩
  · rw [upd_ne (Nat.ne_of_lt (Nat.lt_of_lt_of_le (Heap.lt_size e) h0))]
    exact I.base.free b u e n hx
  · have q := I.base.tups b xs e
    rw [upd_ne (ne _ _ q)]
    exact q
  · have q := I.base.frzs b u xs e
    rw [upd_ne (ne _ _ q)]
    exact q
  · obtain ⟨m, q⟩ := I.base.tbls b ps e
    exact ⟨m, by rw [upd_ne (ne _ _ q)]; exact q⟩
  · rw [upd_ne hL.symm]
    exact I.free
  · rw [upd_ne (hc x c e)]
    exact I.freeC x c e
  · obtain ⟨q1, q2, q3⟩ := I.pin p hq
    exact ⟨q1, by rw [upd_ne (hp p hq)]; exact q2, q3⟩
  · by_cases hb : b = a
    · subst hb
      rw [upd_same] at e
      cases e
      exact new
    · rw [upd_ne hb] at e
      refine (I.hok b u e).stay (fun c v _ q => q) (fun c q => ?_) fun c xs q => ?_
      · rw [upd_ne (ne _ _ q)]
        exact q
      · rw [upd_ne (ne _ _ q)]
        exact q
/-- a place that is new to the state s is no frame's -/
theorem noFrame (I : Inv X pins σ H s) {b : Addr} (h : s.heap.objs.size ≤ b) : b ∉ frs X.stack := fun z => by
  rcases List.mem_cons.mp (I.stkSub b z) with e | e
  · have q := I.lt
    rw [← e] at q
    exact Nat.lt_irrefl _ (Nat.lt_of_lt_of_le q h)
  · exact I.nofs h e
theorem each_vals : ∀ {xs : List V} {us : List Value}, PySem.W.EachIs (fun u x => RelV x u) us xs → Vals xs us
  | _, _, .nil => .nil
  | _, _, .cons h t => .cons h (each_vals t)
theorem vals_each : ∀ {xs : List V} {us : List Value}, Vals xs us → PySem.W.EachIs (fun u x => RelV x u) us xs
  | _, _, .nil => .nil
  | _, _, .cons h t => .cons h (vals_each t)
end
/-- sorted(xs): the items read as data by k; what comes is THE sorted list -/
def askSorted (K : PySem.W.Frag) : List V → Hp → VK → Prop := fun xs H Q => ∃ (a : Addr) (items : List V) (k : V → PyData), xs = [.ref a] ∧ SqL K H a items ∧ (∀ x ∈ items, Dp K H x (k x)) ∧
  PySem.W.AllAlike (items.map k) ∧ PySem.W.Sortable (items.map k) ∧ (∀ x ∈ items, (k x).depth ≤ 50) ∧ ∀ p, H p = none → Q (.ref p) (upd H p (.lst (items.mergeSort (PySem.W.dataLe false k))))
theorem each_reads {X : Cx} {pins : List (Addr × Obj)} {σ : L2.St} {H : Hp} {s : Shared} (I : Inv X pins σ H s) (k : V → PyData) : ∀ {xs : List V} {us : List Value}, Vals xs us → (∀ x ∈ xs, Dp X.K H x (k x)) → PySem.W.EachIs (fun v x => ∃ as, Reads s.heap v (k x) as) us xs
  | _, _, .nil, _ => .nil
  | _, _, .cons h t, hd => .cons (Dp.reads I _ _ _ (hd _ List.mem_cons_self) h) (each_reads I k t fun x hx => hd x (List.mem_cons_of_mem _ hx))
section
variable {X : Cx}
theorem cr_sorted (hu : X.A.units + 64 < cLine) : CallR X (.builtin "sorted") (askSorted X.K) := by
  intro pins s σ H xs us Q I rel q
  obtain ⟨a, items, k, rfl, hs, hd, hal, hk, hdep, q⟩ := q
  obtain ⟨u, rfl, ru⟩ := vals1 rel
  cases ru
  obtain ⟨its, rv, hl, hz⟩ := I.list hs
  refine PySem.W.sorted_data (vs := its) (R := fun u x => RelV x u) (enc := k) (bs := items) hl.isList (vals_each rv) (each_reads I k rv hd) hal hk hz (fun x hx => ?_) fun out hlen ho => ?_
  · have := hdep x hx
    omega
  · obtain ⟨c, hc⟩ := sortedAll_at s.heap its out.toArray
    have hlen2 : (items.mergeSort (PySem.W.dataLe false k)).length ≤ sizeLine := by
      rw [List.length_mergeSort]
      exact hz
    exact ⟨.ref _, _, I.laid (t' := s.toks) (fun _ _ => sortedAll_old) (Nat.le_succ _) (show ObjOk X.prog X.w _ _ _ (.lst (items.mergeSort (PySem.W.dataLe false k))) from ⟨hlen2, out, c, each_vals ho, hc⟩), rfl, q _ (I.hok.fresh (Nat.le_succ _))⟩
end
end SWL
set_option Elab.async false
set_option linter.all false
set_option maxRecDepth 100000
set_option maxHeartbeats 4000000
namespace SWL
open PySem PySem.Spec PyProof.Rows L2 Calls
section
variable {prog : Program} {w : World} {A : Around} {s : Shared} {E : Value → Shared → Prop}
/-- sorted(xs, ..), xs a list or a tuple, is list.sort(..) of a new list -/
theorem collect_seq {T : String} (hT : T = "list" ∨ T = "tuple") {l : Addr} {vs : List Value} {o : Obj} {n : Nat} {Q : List Value → Shared → Prop} (ho : s.heap.get? l = some o) (hc : o.cls = .type T) (hd : o.data = .seq vs.toArray n)
    (hsz : vs.length ≤ sizeLine) (h : Q vs { s with heap := (s.heap.push (seqObj "list" #[] 0)).update s.heap.objs.size (Obj.mapSeq (· ++ vs.toArray)) }) : wpAny (model prog w) A (collect (.ref l)) Q E s := by
  have hnew : ∀ {h : Heap}, (h.push (seqObj "list" #[] 0)).get? h.objs.size = some (seqObj "list" #[] 0) := fun {h} => Heap.get?_push_size _ rfl
  have hold : (s.heap.push (seqObj "list" #[] 0)).get? l = some o := Heap.get?_push_of_some _ ho
  unfold collect
  refine wpAny_bind (wpAny_runValue (codeAny_builtin entry_proto_collect' (wpAny_bind (wpAny_newList (wpAny_pure ⟨Code.quiet_builtin _ (by decide +kernel), codeAny_builtin entry_list_iadd' ?_⟩)))))
  show wpAny _ _ (Builtin.List.listExtendWith (.ref s.heap.objs.size) (.ref l) (.ref s.heap.objs.size)) _ _ { s with heap := s.heap.push (seqObj "list" #[] 0) }
  unfold Builtin.List.listExtendWith
  refine wpAny_bind (wpAny_typeOf (T := T) ⟨o, hold, hc⟩ ?_)
  rw [if_pos (by rcases hT with e | e <;> subst e <;> first | rfl | decide | simp)]
  refine wpAny_bind (listItems_at hold hd (wpAny_bind (listItems_at (xs := #[]) (n := 0) hnew rfl ?_)))
  rw [if_neg (by simp)]
  refine wpAny_bind (listUpdate_at (xs := #[]) (n := 0) hnew rfl (wpAny_pure ?_) (Nat.zero_le _) (by show (#[] ++ vs.toArray).size ≤ sizeLine + 1; simp only [Array.size_append, List.size_toArray, List.length_nil]; omega))
  refine wpAny_bind (wpAny_load (get?_update_seq hnew _) ?_)
  have e : ((#[] : Array Value) ++ vs.toArray).toList = vs := by simp
  show wpAny _ _ (pure ((#[] : Array Value) ++ vs.toArray).toList) Q E _
  rw [e]
  exact wpAny_pure h
theorem sorted_of_seq {T : String} (hT : T = "list" ∨ T = "tuple") {l : Addr} {vs : List Value} {o : Obj} {n : Nat} {kw : List (Str × Value)} {Q : Value → Shared → Prop} (ho : s.heap.get? l = some o) (hc : o.cls = .type T) (hd : o.data = .seq vs.toArray n)
    (hL : vs.length ≤ sizeLine) (ha1 : argsOk "sorted" ⟨[.ref l], kw⟩) (ha2 : ∀ x, argsOk "list.sort" ⟨[.ref x], kw⟩)
    (body : ∀ E' : Value → Shared → Prop, wpAny (model prog w) A.in1.in1 (Builtin.«list.sort» ⟨[.ref (s.heap.objs.size + 1)], kw⟩) (fun f s' => f = .done (.ret .none) ∧ Q (.ref (s.heap.objs.size + 1)) s') E' { s with heap := PySem.W.copyHeap s.heap vs }) :
    wpAny (model prog w) A (call (.builtin "sorted") [.ref l] kw) Q E s := by
  refine call_function_entry_kw kind_sorted plain_sorted entry_sorted ha1 ?_
  unfold Builtin.«sorted»
  refine wpAny_bind (m := checkCount "sorted" 1 1 _) (wpAny_pure (wpAny_bind (collect_seq hT ho hc hd hL (wpAny_bind (wpAny_newList ?_ hL)))))
  have hs : ((s.heap.push (seqObj "list" #[] 0)).update s.heap.objs.size (Obj.mapSeq (· ++ vs.toArray))).objs.size = s.heap.objs.size + 1 := (Heap.size_update ..).trans (size_push' ..)
  show wpAny _ _ _ _ _ { s with heap := PySem.W.copyHeap s.heap vs }
  rw [hs]
  refine wpAny_bind (wpAny_holding (wpAny_call_entry_kw slot_list_sort ⟨_, PySem.W.copyHeap_at s.heap vs, rfl⟩ entry_list_sort ?_ (ha2 _)))
  refine wpAny_mono (body _) (fun f s' hf => ?_) fun _ _ e => e
  obtain ⟨rfl, hq⟩ := hf
  exact ⟨_, rfl, wpAny_pure ⟨_, rfl, hq⟩⟩
end
/-- a list or a tuple of xs -/
def Sq (K : PySem.W.Frag) (H : Hp) (a : Addr) (xs : List V) : Prop := SqL K H a xs ∨ SqT K H a xs
theorem isq {X : Cx} {pins : List (Addr × Obj)} {σ : L2.St} {H : Hp} {s : Shared} {a : Addr} {xs : List V} (I : Inv X pins σ H s) (h : Sq X.K H a xs) : ∃ (vs : List Value) (T : String) (o : Obj) (n : Nat), Vals xs vs ∧ (T = "list" ∨ T = "tuple") ∧ s.heap.get? a = some o ∧ o.cls = .type T ∧ o.data = .seq vs.toArray n ∧ xs.length ≤ sizeLine := by
  rcases h with h | h
  · obtain ⟨its, r, ⟨o, n, e, c, _, d⟩, z⟩ := I.list h
    exact ⟨its, "list", o, n, r, .inl rfl, e, c, d, z⟩
  · obtain ⟨its, r, ⟨o, e, c, n, d⟩, z⟩ := I.tuple h
    exact ⟨its, "tuple", o, n, r, .inr rfl, e, c, d, z⟩
theorem Grows.sq {K : PySem.W.Frag} {H H' : Hp} (g : Grows H H') {a : Addr} {xs : List V} (h : Sq K H a xs) : Sq K H' a xs := h.imp g.l g.t
end SWL
set_option Elab.async false
set_option linter.all false
set_option maxRecDepth 100000
set_option maxHeartbeats 4000000
namespace SWL
open PySem PySem.Spec PyProof.Rows L2
/-! sorted(xs, key=f), f a def of the text that raises nothing -/
def askSortedKey (K : PySem.W.Frag) (sp : Sp) (f : Addr) : List V → List V → Hp → VK → Prop := fun xs zs H Q => ∃ (a : Addr) (items : List V) (k : V → PyData), xs = [.ref a] ∧ zs = [.ref f] ∧ Sq K H a items ∧
  (∀ x ∈ items, ∀ H1, Grows H H1 → sp [x] H1 (fun v H2 => Grows H1 H2 ∧ Dp K H2 v (k x)) E0) ∧
  PySem.W.AllAlike (items.map k) ∧ PySem.W.Sortable (items.map k) ∧ (∀ x ∈ items, (k x).depth ≤ 50) ∧ ∀ H1 p, Grows H H1 → H1 p = none → Q (.ref p) (upd H1 p (.lst (items.mergeSort (PySem.W.dataLe false k))))
section
variable {X : Cx} {pins : List (Addr × Obj)} {σ : L2.St} {H : Hp} {s : Shared}
/-- one call from within two built-in calls: what stood untracked and is no frame's stands -/
theorem callIn {k : Nat} {f : Addr} {fd : FuncData} {ps : Str} {sp : Sp} {Q : VK} {x : V} {u : Value} {A : Around} {E : Value → Shared → Prop} {R : Value → Shared → Prop} (F : FnOk X.prog X.w X.K X.mg X.base CX0 k f fd [ps] sp) (hb : Binds X.K fd [ps] []) (hr : Room k A) (hA : A.frames = X.A.frames)
    (I : Inv X pins σ H s) (rx : RelV x u) (h : sp [x] H Q E0)
    (hR : ∀ (v : V) (w : Value) (H' : Hp) (s' : Shared), Inv X pins σ H' s' → RelV v w → Q v H' → (∀ b o, s.heap.get? b = some o → H b = none → b ∉ frs X.stack → s'.heap.get? b = some o ∧ H' b = none) → R w s') :
    wpAny (model X.prog X.w) A (call (.ref f) [u]) R E s := by
  have e1 := I.env0
  have e0 : Env0 X.prog X.w X.K X.mg X.base A X.stack s H := ⟨by rw [hA]; exact e1.frames, e1.mod, e1.bs, e1.bsz, e1.funs, e1.frf, e1.hok, e1.bare⟩
  refine wpAny_call (codeAny_mono (F.run A X.stack s H ⟨[u], []⟩ [u] [x] Q E0 hr e0 (hb s [u] I.kIn rfl) (.cons rx .nil) h) fun r s' hq => ?_)
  cases r with
  | error e => exact False.elim hq
  | ok fl =>
    cases fl with
    | next => exact False.elim hq
    | brk => exact False.elim hq
    | cont => exact False.elim hq
    | ret w =>
      obtain ⟨v, H', os, bare, un, hok, rv, q⟩ := hq
      obtain ⟨v2, H2, J, rv2, e1, e2⟩ := I.after (Q := fun v2 H2 => v2 = v ∧ H2 = H') ⟨v, H', os, bare, un, hok, rv, rfl, rfl⟩
      subst e1 e2
      exact hR _ _ _ _ J rv q fun b o e n nf => ⟨un.keep b o e n nf (by simp), un.free b o e n (by simp)⟩
theorem each_dp {K : PySem.W.Frag} {k : V → PyData} {H H' : Hp} (g : Grows H H') {us : List Value} {xs : List V} (h : PySem.W.EachIs (fun v x => ∃ y, RelV y v ∧ Dp K H y (k x)) us xs) : PySem.W.EachIs (fun v x => ∃ y, RelV y v ∧ Dp K H' y (k x)) us xs :=
  h.mono fun v x ⟨y, r, d⟩ => ⟨y, r, g.dp _ _ d⟩
theorem each_last {α β : Type} {R : α → β → Prop} {a : α} {b : β} (h : R a b) : ∀ {as : List α} {bs : List β}, PySem.W.EachIs R as bs → PySem.W.EachIs R (as ++ [a]) (bs ++ [b])
  | _, _, .nil => .cons h .nil
  | _, _, .cons q t => .cons q (each_last h t)
theorem crk_sortedKey {k : Nat} {f : Addr} {fd : FuncData} {ps : Str} {sp : Sp} (F : FnOk X.prog X.w X.K X.mg X.base CX0 k f fd [ps] sp) (hb : Binds X.K fd [ps] []) (hr : Room (k + 2) X.A) : CallRK X (.builtin "sorted") [Str.ofString "key"] (askSortedKey X.K sp f) := by
  intro pins s σ H xs zs us ws Q I rel relz q
  obtain ⟨a0, items, kf, rfl, rfl, hs, hsp, hal, hk, hdep, q⟩ := q
  obtain ⟨u, rfl, ru⟩ := vals1 rel
  obtain ⟨wf, rfl, rw_⟩ := vals1 relz
  cases ru
  cases rw_
  obtain ⟨vs, T, o, n, rv, hT, hget, hcl, hdt, hz⟩ := isq I hs
  have hvl : vs.length = items.length := rv.length.symm
  have hzv : vs.length ≤ sizeLine := by rw [hvl]; exact hz
  have hunits : X.A.units + 16 * (k + 2) + 200 < cLine := hr.un
  show wpAny _ _ (call (.builtin "sorted") [.ref a0] [(Str.ofString "key", .ref f)]) _ _ _
  refine sorted_of_seq hT hget hcl hdt hzv (ksk_s1 _ _) (fun _ => ksk_l1 _ _) fun E' => ?_
  rw [ksk_t1]
  generalize hA : s.heap.objs.size + 1 = a
  have I0 : Inv X pins σ H { s with heap := PySem.W.copyHeap s.heap vs } := I.kept (t' := s.toks) fun b o e => PySem.W.copyHeap_old e
  have ha : (PySem.W.copyHeap s.heap vs).get? a = some (seqObj "list" vs.toArray 0) := by rw [← hA]; exact PySem.W.copyHeap_at s.heap vs
  obtain ⟨e1, ha1⟩ : ∃ e1, ((PySem.W.copyHeap s.heap vs).update a (Obj.mapSeq fun _ => (#[] : Array Value))).get? a = some (seqObj "list" #[] e1) := ⟨_, get?_update_seq ha fun _ => #[]⟩
  have szS : s.heap.objs.size ≤ a := by rw [← hA]; exact Nat.le_succ _
  unfold ksk_tree
  refine wpAny_bind (listItems_at ha rfl ?_)
  refine wpAny_bind (listUpdate_at ha rfl ?_ (by rw [List.size_toArray]; exact hzv) (Nat.zero_le _))
  refine wpAny_bind (seqEpoch_at ha1 rfl ?_)
  refine wpAny_bind (wpAny_newTuple ?_ (by show vs.length ≤ _; exact hzv))
  refine wpAny_bind (wpAny_newList ?_ (Nat.zero_le _))
  refine wpAny_holding ?_
  generalize hh3 : (((PySem.W.copyHeap s.heap vs).update a (Obj.mapSeq fun _ => (#[] : Array Value))).push (seqObj "tuple" vs.toArray 0)) = h2
  generalize hkS : h2.objs.size = kS
  have keep : ∀ b o, s.heap.get? b = some o → (h2.push (seqObj "list" #[] 0)).get? b = some o := fun b o e => by
    have q := PySem.W.sorting_copy_old (vs := vs) e
    unfold PySem.W.sortingHeap at q
    rw [hA, hh3] at q
    exact q
  have hkS3 : (h2.push (seqObj "list" #[] 0)).get? kS = some (seqObj "list" #[] 0) := by rw [← hkS]; exact Heap.get?_push_size _ rfl
  have ha3 : (h2.push (seqObj "list" #[] 0)).get? a = some (seqObj "list" #[] e1) := by
    refine Heap.get?_push_of_some _ ?_
    rw [← hh3]
    exact Heap.get?_push_of_some _ ha1
  have hkSa : a < kS := by
    rw [← hkS, ← hh3, size_push', Heap.size_update]
    exact Nat.lt_succ_of_lt (Heap.lt_size ha)
  have szK : s.heap.objs.size ≤ kS := Nat.le_trans szS (Nat.le_of_lt hkSa)
  have I3 : Inv X pins σ H { s with heap := h2.push (seqObj "list" #[] 0) } := I.kept (t' := s.toks) keep
  have fpK : ∀ {H' : Hp}, H' kS = none → FpOk X pins H' kS := fun n => I.fpOk szK n
  have fpA : ∀ {H' : Hp}, H' a = none → FpOk X pins H' a := fun n => I.fpOk szS n
  have nfK := noFrame I szK
  have nfA := noFrame I szS
  show wpAny _ X.A.in1.in1 (ksk_rest a (.ref f) false vs.toArray e1 (.ref kS)) _ _ _
  unfold ksk_rest
  refine wpAny_bind (wpAny_rule ?_)
  first
    | rw [List.forIn_toArray]
    | (rw [← Array.forIn_toList]; simp only [List.toList_toArray])
  refine wpAny_bind (ksk_fold (fun i s' => ∃ (Hc : Hp) (kA : Array Value) (e : Nat), Inv X pins σ Hc s' ∧ Grows H Hc ∧ s'.heap.get? kS = some (seqObj "list" kA e) ∧ s'.heap.get? a = some (seqObj "list" #[] e1) ∧ Hc kS = none ∧ Hc a = none ∧
    PySem.W.EachIs (fun v x => ∃ y, RelV y v ∧ Dp X.K Hc y (kf x)) kA.toList (items.take i)) vs 0 _ ⟨H, #[], 0, I3, .refl H, hkS3, ha3, I.hok.fresh szK, I.hok.fresh szS, by rw [List.take_zero]; exact .nil⟩ ?step ?done)
  case step =>
    rintro j v s' hx ⟨Hc, kA, e, J, g, nk, na, fk, fa, hE⟩
    simp only [Nat.zero_add] at hE ⊢
    have hj : j < items.length := by
      rw [← hvl]
      exact (List.getElem?_eq_some_iff.mp hx).1
    have hxi : items[j]? = some items[j] := List.getElem?_eq_getElem hj
    obtain ⟨v', hv', rx⟩ := rv.get hxi
    rw [hx] at hv'
    cases hv'
    have hsz : kA.size ≤ vs.length := by
      have h1 := hE.length
      rw [Array.length_toList, List.length_take] at h1
      omega
    refine wpAny_bind (wpAny_attempt ?_)
    refine callIn (A := X.A.in1.in1) F hb ((hr.in1).in1) rfl J rx (hsp _ (List.getElem_mem hj) Hc g) fun y w H' s2 J2 ry hy hkeep => ?_
    obtain ⟨g2, hd⟩ := hy
    obtain ⟨nk2, fk2⟩ := hkeep kS _ nk fk nfK
    obtain ⟨na2, fa2⟩ := hkeep a _ na fa nfA
    try dsimp only
    have s1 := Heap.SameBut.update s2.heap kS (Obj.mapSeq (·.push w))
    obtain ⟨c2, hc2⟩ : ∃ c2, (s2.heap.update kS (Obj.mapSeq (·.push w))).get? kS = some (seqObj "list" (kA.push w) c2) := ⟨_, get?_update_seq nk2 (·.push w)⟩
    refine wpAny_bind (listUpdate_at nk2 rfl ?_ (Nat.le_trans hsz hzv) (Nat.le_trans (Nat.le_of_eq (Array.size_push ..)) (Nat.succ_le_succ (Nat.le_trans hsz hzv))))
    have J3 : Inv X pins σ H' { s2 with heap := s2.heap.update kS (Obj.mapSeq (·.push w)) } := by
      obtain ⟨z1, z2, _, z3, z4, z5⟩ := fpK fk2
      exact J2.turned (t' := s2.toks) (it := kS) (fun b o hb e => (s1.2 b hb).trans e) z1 z2 z3 z4 z5
    refine wpAny_pure ⟨rfl, H', kA.push w, c2, J3, g.trans g2, hc2, (s1.2 a (Nat.ne_of_lt hkSa)).trans na2, fk2, fa2, ?_⟩
    have ek : items.take (j + 1) = items.take j ++ [items[j]] := by rw [List.take_add_one, hxi]; rfl
    rw [ek, Array.toList_push]
    exact each_last ⟨y, ry, hd⟩ (each_dp g2 hE)
  case done =>
    rintro s' ⟨Hc, kA, e, J, g, nk, na, fk, fa, hE⟩
    have et : items.take (0 + vs.length) = items := List.take_of_length_le (by omega)
    rw [et] at hE
    have hsz : kA.size = vs.length := by
      have h1 := hE.length
      rw [Array.length_toList] at h1
      omega
    try dsimp only
    refine wpAny_bind (listItems_at nk rfl ?_)
    have hE2 : PySem.W.EachIs (fun v d => ∃ as, Reads s'.heap v d as) kA.toList (items.map kf) := PySem.W.each_map kf (hE.mono fun v x ⟨y, r, d⟩ => Dp.reads J _ _ _ d r)
    have hkp : PySem.W.KeepsBut a (PySem.W.hideAll s'.heap [kS]) s'.heap := fun b o _ e => PySem.W.of_hideAll _ e
    refine PySem.W.keyH_end (κ := PySem.W.dataKind s'.heap (items.map kf)) (h₁ := PySem.W.hideAll s'.heap [kS]) hkp (PySem.W.hideAll_none _ (by simp)) nk na (Nat.ne_of_gt hkSa)
      (PySem.W.SortsAt.data (s := s') hE2 hal hk (fun d hd => ?_)) hsz hzv fun h3 tk3 c k3 n3 => ⟨rfl, ?_⟩
    · obtain ⟨x, hx, rfl⟩ := List.mem_map.mp hd
      have := hdep x hx
      show X.A.units + 1 + 1 + _ < _
      omega
    · have ko : PySem.W.KeyedOut false (items.map kf) vs (PySem.W.sortVals (PySem.W.dataKind s'.heap (items.map kf)) false kA.toList vs) := ⟨s'.heap, kA.toList, hal, rfl, hE2⟩
      have ho := PySem.W.keyedOut_each kf ko (vals_each rv)
      have J3 : Inv X pins σ Hc { s' with heap := h3, toks := tk3 } := J.turnedL (t' := tk3) (ch := [a, kS]) (fun b o hb e => by
        rw [List.mem_cons, List.mem_singleton, not_or] at hb
        exact k3 b o hb.1 (PySem.W.hideAll_get _ e (by simpa using hb.2))) (fun b hb => by
        rcases (by simpa using hb : b = a ∨ b = kS) with z | z
        · rw [z]; exact fpA fa
        · rw [z]; exact fpK fk)
      have hlen2 : (items.mergeSort (PySem.W.dataLe false kf)).length ≤ sizeLine := by
        rw [List.length_mergeSort]
        exact hz
      exact ⟨.ref a, upd Hc a (.lst (items.mergeSort (PySem.W.dataLe false kf))), track J3 (fpA fa) (Nat.le_trans I.sz szS) ⟨hlen2, _, c, each_vals ho, n3⟩, rfl, q Hc a g fa⟩
end
end SWL
set_option Elab.async false
set_option linter.all false
set_option maxRecDepth 100000
set_option maxHeartbeats 4000000
namespace SWL
open PySem PySem.Spec PyProof.Rows L2
/-! sorted(dict(pairs)), the pairs' keys tuples of numbers and texts -/
def encK : Key → PyData
  | .inl i => .int i
  | .inr z => .str z
def encT (k : List Key) : PyData := .tuple (k.map encK)
def oneMore (acc : List (List Key)) (k : List Key) : List (List Key) := if acc.any (fun z => decide (z = k)) = true then acc else acc ++ [k]
def firsts (ks : List (List Key)) : List (List Key) := ks.foldl oneMore []
theorem atKey_isSome (k : List Key) : ∀ xs : List (List Key × Addr × Value), (atKey xs k).isSome = (xs.map (·.1)).any (fun z => decide (z = k))
  | [] => rfl
  | x :: xs => by
    have ih := atKey_isSome k xs
    unfold atKey at ih ⊢
    by_cases h : x.1 = k
    · simp [h]
    · simp only [List.find?_cons, h, decide_false, List.map_cons, List.any_cons, Bool.false_or]
      exact ih
theorem storedH_keys (xs : List (List Key × Addr × Value)) (k : List Key) (a : Addr) (v : Value) : (storedH xs k a v).map (·.1) = oneMore (xs.map (·.1)) k := by
  unfold storedH oneMore
  rw [atKey_isSome]
  split
  · rw [List.map_map]
    refine List.map_congr_left fun x _ => ?_
    simp only [Function.comp, putAt]
    split <;> rfl
  · rw [List.map_append]
    rfl
theorem storedAll_keys (ps : List (List Key × Addr × Value)) : (storedAllH [] ps).map (·.1) = firsts (ps.map (·.1)) := by
  have gen : ∀ (ps xs : List (List Key × Addr × Value)), (storedAllH xs ps).map (·.1) = (ps.map (·.1)).foldl oneMore (xs.map (·.1)) := by
    intro ps
    induction ps with
    | nil => intro xs; rfl
    | cons p ps ih =>
      intro xs
      show (storedAllH (storedH xs p.1 p.2.1 p.2.2) ps).map (·.1) = _
      rw [ih, storedH_keys]
      rfl
  exact gen ps []
/-- an item of the list: the pair's place, the key's place, the key, the value -/
structure PairIn where
  at_ : Addr
  key_at : Addr
  key : List Key
  val : V
def PairIn.ok (H : Hp) (p : PairIn) : Prop := H p.at_ = some (.tup [.ref p.key_at, p.val]) ∧ H p.key_at = some (.tup (p.key.map kV))
def askSortedDict (K : PySem.W.Frag) : V → Hp → VK → Prop := fun v H Q => ∃ (a : Addr) (ps : List PairIn), v = .ref a ∧ H a = some (.lst (ps.map fun p => .ref p.at_)) ∧ (∀ p ∈ ps, p.ok H) ∧
  PySem.W.AllAlike ((firsts (ps.map (·.key))).map encT) ∧ (∀ p ∈ ps, p.key ≠ []) ∧
  ∀ (out : List (Addr × List Key)), (∀ q ∈ out, H q.1 = some (.tup (q.2.map kV))) → out.map (·.2) = (firsts (ps.map (·.key))).mergeSort (PySem.W.dataLe false encT) → ∀ p, H p = none → Q (.ref p) (upd H p (.lst (out.map fun q => .ref q.1)))
theorem items_of {P : Program} {w : World} : ∀ (ks : List Key) (us : List Value), Vals (ks.map kV) us → ItemsAre (mixKind P w) ks us
  | [], _, h => by cases h; exact .nil
  | k :: ks, _, h => by
    cases h with
    | cons h1 h2 =>
      refine .cons ?_ (items_of ks _ h2)
      cases k with
      | inl i =>
        obtain ⟨t, rfl⟩ := h1
        exact keyIs_int i t
      | inr z =>
        obtain ⟨t, rfl⟩ := h1
        exact keyIs_str z t
theorem vals_of_items {P : Program} {w : World} {h : Heap} : ∀ (ks : List Key) (us : List Value), ItemsAre (mixKind P w) ks us → ReadsAll h us (ks.map encK) []
  | [], _, q => by cases q; exact .nil
  | k :: ks, _, q => by
    cases q with
    | cons h1 h2 =>
      rcases keyIs_shape h1 with ⟨i, t, rfl, rfl⟩ | ⟨z, t, rfl, rfl⟩
      · exact .cons (as := []) (bs := []) (.int i t) (vals_of_items ks _ h2)
      · exact .cons (as := []) (bs := []) (.str z t) (vals_of_items ks _ h2)
end SWL
set_option Elab.async false
set_option linter.all false
set_option maxRecDepth 100000
set_option maxHeartbeats 4000000
namespace SWL
open PySem PySem.Spec PyProof.Rows L2
section
variable {X : Cx} {pins : List (Addr × Obj)} {σ : L2.St} {H : Hp} {s : Shared}
/-- the pairs as the machine has them -/
theorem pairs_there (I : Inv X pins σ H s) : ∀ (ps : List PairIn), (∀ p ∈ ps, p.ok H) → ∃ xs : List (List Key × Addr × Value), xs.length = ps.length ∧
    ∀ (j : Nat) (p : PairIn), ps[j]? = some p → ∃ v, xs[j]? = some (p.key, p.key_at, v) ∧ PairAt s.heap p.at_ (.ref p.key_at) v ∧ IsTupleKey (mixKind X.prog X.w) s.heap p.key p.key_at
  | [], _ => ⟨[], rfl, fun j p h => by simp at h⟩
  | p :: ps, h => by
    obtain ⟨xs, hl, hx⟩ := pairs_there I ps fun q hq => h q (List.mem_cons_of_mem _ hq)
    obtain ⟨h1, h2⟩ := h p List.mem_cons_self
    obtain ⟨_, its, r1, t1⟩ := (show ObjOk X.prog X.w H s.heap p.at_ (.tup [.ref p.key_at, p.val]) from I.hok _ _ h1)
    obtain ⟨_, its2, r2, t2⟩ := (show ObjOk X.prog X.w H s.heap p.key_at (.tup (p.key.map kV)) from I.hok _ _ h2)
    obtain ⟨u1, u2, rfl, rr1, rr2⟩ := vals2 r1
    cases rr1
    refine ⟨(p.key, p.key_at, u2) :: xs, by simp [hl], fun j q hq => ?_⟩
    cases j with
    | zero =>
      have e : p = q := Option.some.inj hq
      subst e
      obtain ⟨o2, g1, g2, n2, g3⟩ := t2
      exact ⟨u2, rfl, .inl t1, ⟨o2, its2.toArray, n2, g1, g2, g3, items_of _ _ r2⟩⟩
    | succ j => exact hx j q hq
theorem tup_reads {P : Program} {w : World} {h : Heap} {k : List Key} {a : Addr} (x : IsTupleKey (mixKind P w) h k a) : Reads h (.ref a) (encT k) [] := by
  obtain ⟨o, its, n, h1, h2, h3, h4⟩ := x
  exact .tuple h1 h2 h3 (vals_of_items _ _ h4)
theorem storedH_mem {xs : List (List Key × Addr × Value)} {k : List Key} {a : Addr} {v : Value} {y : List Key × Addr × Value} (h : y ∈ storedH xs k a v) : (∃ z ∈ xs, z.1 = y.1 ∧ z.2.1 = y.2.1) ∨ (y.1 = k ∧ y.2.1 = a) := by
  unfold storedH at h
  split at h
  · obtain ⟨z, hz, rfl⟩ := List.mem_map.mp h
    refine .inl ⟨z, hz, ?_⟩
    simp only [putAt]
    split <;> exact ⟨rfl, rfl⟩
  · rcases List.mem_append.mp h with q | q
    · exact .inl ⟨y, q, rfl, rfl⟩
    · have e := List.mem_singleton.mp q
      subst e
      exact .inr ⟨rfl, rfl⟩
theorem storedAll_mem : ∀ (ps xs : List (List Key × Addr × Value)) {y : List Key × Addr × Value}, y ∈ storedAllH xs ps → (∃ z ∈ xs, z.1 = y.1 ∧ z.2.1 = y.2.1) ∨ ∃ z ∈ ps, z.1 = y.1 ∧ z.2.1 = y.2.1
  | [], xs, y, h => .inl ⟨y, h, rfl, rfl⟩
  | p :: ps, xs, y, h => by
    rcases storedAll_mem ps (storedH xs p.1 p.2.1 p.2.2) h with ⟨z, hz, e1, e2⟩ | ⟨z, hz, e1, e2⟩
    · rcases storedH_mem hz with ⟨w, hw, f1, f2⟩ | ⟨f1, f2⟩
      · exact .inl ⟨w, hw, f1.trans e1, f2.trans e2⟩
      · exact .inr ⟨p, List.mem_cons_self, f1.symm.trans e1, f2.symm.trans e2⟩
    · exact .inr ⟨z, List.mem_cons_of_mem _ hz, e1, e2⟩
theorem each_toList {xs : List (List Key × Addr × Value)} {acc : Array Value} (hs : acc.size = xs.length) (h : ∀ (i : Nat) (v : Value), acc[i]? = some v → ∃ y, xs[i]? = some y ∧ v = Value.ref y.2.1) : PySem.W.EachIs (fun v (y : List Key × Addr × Value) => v = Value.ref y.2.1) acc.toList xs := by
  refine PySem.W.EachIs.of_zip (by rw [Array.length_toList]; exact hs) fun p hp => ?_
  obtain ⟨i, hi⟩ := List.getElem?_of_mem hp
  rw [List.getElem?_zip_eq_some] at hi
  obtain ⟨y, hy, e⟩ := h i p.1 (by rw [← Array.getElem?_toList]; exact hi.1)
  rw [hi.2] at hy
  cases hy
  exact e
theorem each_refs : ∀ {us : List Value} {ys : List (List Key × Addr × Value)}, PySem.W.EachIs (fun v (y : List Key × Addr × Value) => v = Value.ref y.2.1) us ys → Vals (ys.map fun y => V.ref y.2.1) us
  | _, _, .nil => .nil
  | _, _, .cons h t => by
    subst h
    exact .cons rfl (each_refs t)
/-- sorted(d), d a dict (untracked) whose keys are tuples of the written kinds -/
theorem sorted_dictH {d : Addr} {xs : List (List Key × Addr × Value)} {Q : VK} (hc : X.calm = true) (hu : X.A.units + 64 < cLine) (I : Inv X pins σ H s) (lo : (d == sysModules) = false) (hd : s.heap.DictOfH (tupleKind (mixKind X.prog X.w)) d xs) (hz : xs.length ≤ sizeLine)
    (hal : PySem.W.AllAlike ((xs.map (·.1)).map encT)) (hne : ∀ x ∈ xs, x.1 ≠ [])
    (q : ∀ ys : List (List Key × Addr × Value), ys = xs.mergeSort (PySem.W.dataLe false fun y => encT y.1) → ∀ p, H p = none → Q (.ref p) (upd H p (.lst (ys.map fun y => V.ref y.2.1)))) :
    wpAny (model X.prog X.w) X.A (call (.builtin "sorted") [.ref d]) (EP X pins σ Q) X.xe s := by
  have hh := I.ok.hd hc
  obtain ⟨es, ep, hr, hsz, hent⟩ := hd.raw
  have e0 : es.size ≤ sizeLine := by rw [hsz]; exact hz
  refine Calls.call_function_entry kind_sorted plain_sorted entry_sorted (args_sorted1 _) ?_
  unfold Builtin.«sorted»
  refine wpAny_bind (m := checkCount "sorted" 1 1 _) (wpAny_pure ?_)
  refine wpAny_bind (PySem.W.kdu_collect (A := X.A.in1) (KdlSrc.rawDict lo) hh hr e0 fun h' tk acc hk hacc => ?_)
  have hal2 : acc.size = xs.length := by rw [hacc.1, hsz]
  have hE : PySem.W.EachIs (fun v (y : List Key × Addr × Value) => v = Value.ref y.2.1) acc.toList xs := each_toList hal2 fun i v hv => by
    obtain ⟨hi, e⟩ := hacc.2 i v hv
    obtain ⟨y, hy, e2, _, _⟩ := hent i hi
    exact ⟨y, hy, e.trans e2⟩
  have I1 : Inv X pins σ H { s with heap := h', toks := tk } := I.kept hk
  have hzl : acc.toList.length ≤ sizeLine := by rw [Array.length_toList, hal2]; exact hz
  refine wpAny_bind (wpAny_newList ?_ hzl)
  have hoL : (h'.push (seqObj "list" acc.toList.toArray 0)).get? h'.objs.size = some (seqObj "list" acc.toList.toArray 0) := Heap.get?_push_size _ rfl
  have kp : ∀ b o, s.heap.get? b = some o → (h'.push (seqObj "list" acc.toList.toArray 0)).get? b = some o := fun b o e => Heap.get?_push_of_some _ (hk b o e)
  show wpAny _ _ _ _ _ { s with heap := h'.push (seqObj "list" acc.toList.toArray 0), toks := tk }
  obtain ⟨_, _, _, _, _, _, _, his, _⟩ := id hd
  have hR : PySem.W.EachIs (fun v (y : List Key × Addr × Value) => ∃ as, Reads (h'.push (seqObj "list" acc.toList.toArray 0)) v (encT y.1) as ∧ h'.objs.size ∉ as) acc.toList xs := by
    refine (PySem.W.each_mem hE).mono fun v y ⟨e, hy⟩ => ⟨[], ?_, by simp⟩
    subst e
    exact PyProof.Rows.Reads.keeps kp (tup_reads (his y hy))
  refine wpAny_bind (wpAny_holding ?_)
  refine PySem.W.list_sort_data (s := { s with heap := h'.push (seqObj "list" acc.toList.toArray 0), toks := tk }) (enc := fun y : List Key × Addr × Value => encT y.1) (bs := xs) hoL hE hR (by rw [List.map_map] at hal; exact hal) (.inl fun dd hdd => ?_) hz (fun y _ => ?_) fun out hlen ho => ?_
  · obtain ⟨y, hy, rfl⟩ := List.mem_map.mp hdd
    cases e : y.1 with
    | nil => exact absurd e (hne y hy)
    | cons k r => exact ⟨encK k, r.map encK, rfl⟩
  · have hdep : (encT y.1).depth = 1 := by
      have z : ∀ l : List Key, PyData.depthAll (l.map encK) = 0 := by
        intro l
        induction l with
        | nil => rfl
        | cons k r ih =>
          show PyData.depthAll (encK k :: r.map encK) = 0
          rw [PyData.depthAll, ih]
          cases k <;> rfl
      show PyData.depth (.tuple (y.1.map encK)) = 1
      rw [PyData.depth, z]
    rw [hdep]
    show X.A.units + 1 + 1 + 1 < cLine
    omega
  · obtain ⟨c, hc2⟩ := sortedHeap_at (vs := acc.toList) (out := out.toArray) hoL
    have hv := each_refs ho
    have hlen2 : ((xs.mergeSort (PySem.W.dataLe false fun y => encT y.1)).map fun y => V.ref y.2.1).length ≤ sizeLine := by
      rw [List.length_map, List.length_mergeSort]
      exact hz
    refine wpAny_pure ⟨_, rfl, .ref h'.objs.size, upd H h'.objs.size _, I1.laid (t' := tk) (fun b u e => ?_) (Nat.le_refl _) (show ObjOk X.prog X.w _ _ _ (.lst _) from ⟨hlen2, out, c, hv, hc2⟩), rfl, q _ rfl _ (I1.hok.fresh (Nat.le_refl _))⟩
    have hb : b < h'.objs.size := Heap.lt_size e
    exact (sortedHeap_old (Nat.ne_of_lt hb) (by rw [size_push']; exact Nat.lt_succ_of_lt hb)).trans (Heap.get?_push_of_some _ e)
end
end SWL
set_option Elab.async false
set_option linter.all false
set_option maxRecDepth 100000
set_option maxHeartbeats 4000000
namespace SWL
open PySem PySem.Spec PyProof.Rows L2
section
variable {X : Cx}
theorem vals_refs : ∀ {ps : List PairIn} {us : List Value}, Vals (ps.map fun p => V.ref p.at_) us → us = ps.map fun p => Value.ref p.at_
  | [], _, h => by cases h; rfl
  | p :: ps, _, h => by
    cases h with
    | cons h1 h2 =>
      rw [vals_refs h2]
      cases h1
      rfl
theorem pe_sortedDict {e : Expr} {te : TE} {p1 p2 p3 p4 : Pos} (hc : X.calm = true) (hu : X.A.units + 64 < cLine) (g1 : Gl X "sorted") (m1 : X.mg "sorted" = none) (g2 : Gl X "dict") (m2 : X.mg "dict" = none) (he : PE X e te)
    (hs : starEach [e] X.env = (false, eval e X.env) :: starEach [] X.env := by rfl) :
    PE X (.Call (.Name "sorted" p1) [.Call (.Name "dict" p2) [e] [] p3] [] p4) (fun σ H Q => te σ H fun v H1 => askSortedDict X.K v H1 Q) := by
  refine ⟨fun pins s σ H Q I h => wpAny_Call_Name_kw (ld_blt I g1 m1 (by decide +kernel : bootBuiltins "sorted" = some (.builtin "sorted")) (callWith_builtin1 ?_ rfl rfl))⟩
  show wpAny _ _ (spliced ((false, eval (.Call (.Name "dict" p2) [e] [] p3) X.env) :: backTo p4 (starEach [] X.env))) _ _ s
  let Q' : List V → Hp → Prop := fun vs H1 => match vs with | [v] => askSortedDict X.K v H1 Q | _ => False
  refine Calls.spliced_cons (wpAny_Call_Name_kw (ld_blt I g2 m2 (by decide +kernel : bootBuiltins "dict" = some (.type "dict")) (callWith_type1 (thn ((pa_cons he pa_nil hs).run p3 pins s σ H Q' I h) fun us s1 q => ?_) hs rfl)))
  obtain ⟨vs, H1, I1, rel, q⟩ := q
  obtain ⟨v0, rfl⟩ : ∃ v0, vs = [v0] := by
    cases vs with
    | nil => exact q.elim
    | cons v r => cases r with
      | nil => exact ⟨v, rfl⟩
      | cons _ _ => exact q.elim
  obtain ⟨a, ps, rfl, hl, hok, hal, hne, q⟩ := (show askSortedDict X.K v0 H1 Q from q)
  obtain ⟨u, rfl, ru⟩ := vals1 rel
  cases ru
  obtain ⟨hz0, its, n0, rv, ho⟩ := (show ObjOk X.prog X.w H1 s1.heap a (.lst _) from I1.hok _ _ hl)
  have hz : ps.length ≤ sizeLine := by rw [List.length_map] at hz0; exact hz0
  have eits := vals_refs rv
  obtain ⟨xs, hlen, hx⟩ := pairs_there I1 ps hok
  have hh := I1.ok.hd hc
  have hkeys : xs.map (·.1) = ps.map (·.key) := by
    refine List.ext_getElem? fun j => ?_
    rw [List.getElem?_map, List.getElem?_map]
    cases e : ps[j]? with
    | none =>
      have z : xs[j]? = none := List.getElem?_eq_none_iff.mpr (by rw [hlen]; exact List.getElem?_eq_none_iff.mp e)
      rw [z]
      rfl
    | some p =>
      obtain ⟨v, e2, _⟩ := hx j p e
      rw [e2]
      rfl
  let Ts : Nat → Addr := fun j => ((ps[j]?).map (·.at_)).getD 0
  let psv : List (Value × Value) := xs.map fun x => (Value.ref x.2.1, x.2.2)
  have hpsv : psv.length = ps.length := by rw [List.length_map, hlen]
  have at_j : ∀ (j : Nat) (k v : Value), psv[j]? = some (k, v) → ∃ p, ps[j]? = some p ∧ k = .ref p.key_at ∧ xs[j]? = some (p.key, p.key_at, v) ∧ PairAt s1.heap p.at_ k v := by
    intro j k v e
    rw [List.getElem?_map] at e
    cases e2 : xs[j]? with
    | none => rw [e2] at e; simp at e
    | some x =>
      have hj : j < ps.length := by
        rw [← hlen]
        exact (List.getElem?_eq_some_iff.mp e2).1
      obtain ⟨v', e3, pa, _⟩ := hx j _ (List.getElem?_eq_getElem hj)
      rw [e2] at e e3
      cases e3
      cases e
      exact ⟨_, List.getElem?_eq_getElem hj, rfl, rfl, pa⟩
  have hkt : ∀ x ∈ xs, IsTupleKey (mixKind X.prog X.w) s1.heap x.1 x.2.1 := fun x hxm => by
    obtain ⟨j, hj⟩ := List.getElem?_of_mem hxm
    have hj2 : j < ps.length := by
      rw [← hlen]
      exact (List.getElem?_eq_some_iff.mp hj).1
    obtain ⟨v', e3, _, t⟩ := hx j _ (List.getElem?_eq_getElem hj2)
    rw [hj] at e3
    cases e3
    exact t
  have hH : ∀ x ∈ xs, H1 x.2.1 = some (.tup (x.1.map kV)) := fun x hxm => by
    obtain ⟨j, hj⟩ := List.getElem?_of_mem hxm
    have hj2 : j < ps.length := by
      rw [← hlen]
      exact (List.getElem?_eq_some_iff.mp hj).1
    obtain ⟨v', e3, _, t⟩ := hx j _ (List.getElem?_eq_getElem hj2)
    rw [hj] at e3
    cases e3
    exact (hok _ (List.getElem_mem hj2)).2
  have hls : psv.length ≤ sizeLine := by rw [hpsv]; exact hz
  refine PySem.call_dict_pairsH (A := X.A) (s := s1) (knd := tupleKind (mixKind X.prog X.w)) (ps := xs) (PairArg.list a its.toArray Ts psv) hh ?room ⟨⟨_, _, ho, rfl, rfl, rfl⟩, ?items⟩ ?hc ?hst hls fun h' tk hD hk => ?fin
  case items =>
    refine ⟨?_, fun j k v e => ?_⟩
    · rw [List.size_toArray, eits, List.length_map, hpsv]
    · obtain ⟨p, e1, _, _, pa⟩ := at_j j k v e
      have eT : Ts j = p.at_ := by show ((ps[j]?).map (·.at_)).getD 0 = _; rw [e1]; rfl
      rw [eT]
      refine ⟨?_, pa⟩
      rw [List.getElem?_toArray, eits, List.getElem?_map, e1]
      rfl
  case hc =>
    refine ⟨by rw [hpsv, hlen], fun i key v e => ?_⟩
    obtain ⟨p, e1, ek, e3, pa⟩ := at_j i key v e
    exact ⟨_, _, e3, ek⟩
  case hst =>
    intro h2 hk2 x hxm
    obtain ⟨o, its2, n2, z1, z2, z3, z4⟩ := hkt x hxm
    exact ⟨o, its2, n2, hk2 _ _ (Nat.ne_of_lt (Heap.lt_size z1)) (by simp) z1, z2, z3, z4⟩
  case fin =>
    refine Calls.spliced_nil ?_
    have I2 : Inv X pins σ H1 { s1 with heap := h', toks := tk } := I1.kept fun b o e => hk b o (by simp) e
    have ek := storedAll_keys xs
    rw [hkeys] at ek
    have mem1 : ∀ y ∈ storedAllH [] xs, H1 y.2.1 = some (.tup (y.1.map kV)) := fun y hy => by
      rcases storedAll_mem xs [] hy with ⟨z, hz2, _, _⟩ | ⟨z, hz2, f1, f2⟩
      · simp at hz2
      · rw [← f1, ← f2]
        exact hH z hz2
    have hlen2 : (storedAllH [] xs).length ≤ sizeLine := by
      have := storedAllH_length xs []
      simp at this
      omega
    refine sorted_dictH (X := X) (pins := pins) (σ := σ) (H := H1) (xs := storedAllH [] xs) hc hu I2 (beq_eq_false_iff_ne.mpr (Nat.ne_of_gt I1.big)) hD hlen2 ?_ ?_ fun ys hys p hp => ?_
    · rw [ek]
      exact hal
    · intro y hy
      rcases storedAll_mem xs [] hy with ⟨z, hz2, _, _⟩ | ⟨z, hz2, f1, f2⟩
      · simp at hz2
      · rw [← f1]
        have zk : z.1 ∈ xs.map (·.1) := List.mem_map.mpr ⟨z, hz2, rfl⟩
        rw [hkeys] at zk
        obtain ⟨p, hp, e⟩ := List.mem_map.mp zk
        rw [← e]
        exact hne p hp
    · have e1 : (ys.map fun y => V.ref y.2.1) = ((ys.map fun y => (y.2.1, y.1)).map fun q => V.ref q.1) := by rw [List.map_map]; rfl
      rw [e1]
      refine q (ys.map fun y => (y.2.1, y.1)) (fun z hz2 => ?_) ?_ p hp
      · obtain ⟨y, hy, rfl⟩ := List.mem_map.mp hz2
        rw [hys] at hy
        exact mem1 y ((List.mergeSort_perm _ _).mem_iff.mp hy)
      · rw [List.map_map, ← ek, hys]
        exact PySem.W.sort_maps (fun y : List Key × Addr × Value => y.1) fun _ _ _ _ => rfl
  case room =>
    show X.A.units + 1 + 1 < cLine
    omega
end
end SWL
set_option Elab.async false
set_option linter.all false
set_option maxRecDepth 100000
set_option maxHeartbeats 4000000
namespace SWL
open PySem PySem.Spec PyProof.Rows L2
/-! try: body / except C as n: suite, the exception itself being kept beyond the suite -/
def Kept (cls : Value) (d : Option Addr) (a : Addr) : Heap → Prop := fun h => ∃ oe, h.get? a = some oe ∧ Zc cls d oe ∧ ∃ vs, oe.data = .fields vs
def wKeep (K : PySem.W.Frag) (c : Value) (n i : Nat) (ts : Addr → Value → Option Addr → TS) (D : Ends) : WX := fun cls d σ H =>
  PySem.W.exmOne K cls c = some true ∧ (σ.length = n → ∀ a, H a = none → ts a cls d { nx := fun σ' H' => H' a = none → D.nx (σ'.set i none) (upd H' a (.ext (Kept cls d a))), rt := fun _ _ => False, bk := fun _ _ => False, ct := fun _ _ => False } (σ.set i (some (.ref a))) H)
section
variable {X : Cx} {pins : List (Addr × Obj)} {σ : L2.St} {H : Hp} {s : Shared}
theorem seen {a : Addr} {o : HO} (I : Inv X pins σ H s) (hn : H a = none) (hL : a ≠ X.env.locals) (h0 : a ∉ X.ex → X.s_0.heap.get? a = none) (hc : ∀ x c, X.env.cells.lookup x = some c → c ≠ a) (hp : ∀ p ∈ X.pn ++ pins, p.1 ≠ a)
    (new : ObjOk X.prog X.w (upd H a o) s.heap a o) : Inv X pins σ (upd H a o) s := by
  have ne : ∀ {b u}, H b = some u → b ≠ a := fun e => ne_of_none e hn
  have up : ∀ {b u}, H b = some u → upd H a o b = some u := fun e => by rw [upd_ne (ne e)]; exact e
  refine ⟨I.ok, I.os, I.bare, ⟨I.base.keep, I.base.slot, fun b u e n hx => ?_, I.base.there, fun b xs e => up (I.base.tups b xs e), fun b u xs e => up (I.base.frzs b u xs e), fun b ps e => ?_⟩, I.loc, I.cell, ?_, fun x c e => ?_, fun p hq => ?_, fun b u e => ?_, I.len⟩
  · have nb : b ≠ a := fun z => by rw [z, h0 (z ▸ hx)] at e; cases e
    rw [upd_ne nb]
    exact I.base.free b u e n hx
  · obtain ⟨m, q⟩ := I.base.tbls b ps e
    exact ⟨m, up q⟩
  · rw [upd_ne hL.symm]
    exact I.free
  · rw [upd_ne (hc x c e)]
    exact I.freeC x c e
  · obtain ⟨q1, q2, q3⟩ := I.pin p hq
    exact ⟨q1, by rw [upd_ne (hp p hq)]; exact q2, q3⟩
  · by_cases hb : b = a
    · subst hb
      rw [upd_same] at e
      cases e
      exact new
    · rw [upd_ne hb] at e
      exact (I.hok b u e).stay (fun c v _ q => q) (fun c q => up q) fun c xs q => up q
/-- the pin of the suite, as one of ours -/
theorem mine {a : Addr} {oe : Obj} (I : Inv (X.suite a ((a, oe) :: (X.pn ++ pins))) [] σ H s) (ok : X.Ok) : Inv X ((a, oe) :: pins) σ H s := by
  refine ⟨ok, I.os, I.bare, I.base, I.loc, I.cell, I.free, I.freeC, fun p hp => I.pin p ?_, I.hok, I.len⟩
  show p ∈ ((a, oe) :: (X.pn ++ pins)) ++ []
  rcases List.mem_append.mp hp with h | h
  · simp [h]
  · rcases List.mem_cons.mp h with h | h <;> simp [h]
theorem unpin {q : Addr × Obj} (I : Inv X (q :: pins) σ H s) : Inv X pins σ H s :=
  ⟨I.ok, I.os, I.bare, I.base, I.loc, I.cell, I.free, I.freeC, fun p hp => I.pin p (by rcases List.mem_append.mp hp with h | h <;> simp [h]), I.hok, I.len⟩
end
section
variable {X : Cx} {x n : Str} {c : Value} {i : Nat} {body suite : List Stmt} {b₀ : Stmt} {np pos pos' : Pos} {tb : WX → TS} {ts : Addr → Value → Option Addr → TS}
theorem ps_try_keep (hs : X.stack = X.env :: X.outer) (hf : X.env.frame = some X.env.locals) (hN : X.N.Nodup) (hi : X.N[i]? = some n) (hln : X.env.kindOf n = some .local) (hc : Names X x c)
    (hb : ∀ (W : WX) (pn : List (Addr × Obj)) (xe : Value → Shared → Prop), Takes (X.tr pn xe) W → PassesOwn (model X.prog X.w) X.A X.env xe → PSs (X.tr pn xe) body (tb W))
    (hsu : ∀ (a : Addr) (oe : Obj) (cls : Value) (d : Option Addr) (pn : List (Addr × Obj)), Zc cls d oe → (∃ vs, oe.data = .fields vs) → PSs (X.suite a ((a, oe) :: pn)) (b₀ :: suite) (ts a cls d)) :
    PS X (.Try body [.ExceptHandler (some (.Name x np)) (some n) (b₀ :: suite) pos'] [] [] pos) (fun D σ H => tb (wKeep X.K c X.N.length i ts D) D σ H) := by
  constructor
  intro pins s σ H D I h
  have ok := I.ok
  have hfr : X.A.frames = some (X.env :: X.outer) := ok.frames.trans (congrArg some hs)
  have back : ∀ {f : Flow} {s1 : Shared} {pn xe}, SP (X.tr (X.pn ++ pins) xe) pn D f s1 → SP X pins D f s1 := by
    intro f s1 pn xe q
    cases f with
    | ret u => obtain ⟨v, σ', H', J, z⟩ := q; exact ⟨v, σ', H', J.ofTry ok, z⟩
    | next => obtain ⟨σ', H', J, z⟩ := q; exact ⟨σ', H', J.ofTry ok, z⟩
    | brk => obtain ⟨σ', H', J, z⟩ := q; exact ⟨σ', H', J.ofTry ok, z⟩
    | cont => obtain ⟨σ', H', J, z⟩ := q; exact ⟨σ', H', J.ofTry ok, z⟩
  let hand : Value → Shared → Prop := fun e s₁ => wpAny (model X.prog X.w) X.A (noteFrame e X.env) (fun _ s₂ => wpAny (model X.prog X.w) X.A (setFlight e none) (fun _ s₃ =>
    wpAny (model X.prog X.w) X.A (handleBy e X.env [.ExceptHandler (some (.Name x np)) (some n) (b₀ :: suite) pos']) (SP X pins D) X.xe s₃) X.xe s₂) X.xe s₁
  have take : Takes (X.tr (X.pn ++ pins) hand) (wKeep X.K c X.N.length i ts D) := by
    intro u s' xx
    obtain ⟨a, B, sI, pins', σ', H', cls, d, rfl, J0, nb, up, sky, na, os, ag, hex, hts⟩ := xx
    have J := J0.ofTry ok
    have nb' : ∀ b o, sI.heap.get? b = some o → b ∉ frs (X.env :: X.outer) → B.get? b = some o := fun b o e z => nb b o e (by rw [show (X.tr (X.pn ++ pins) hand).stack = X.env :: X.outer from hs]; exact z)
    have sky' : Sky B (X.env :: X.outer) a (Zc cls d) X.env.locals s'.heap := by
      rw [← hs]
      exact sky
    show wpAny (model X.prog X.w) X.A (noteFrame (.ref a) X.env) _ _ _
    refine Sky.land Zc.steady hfr hf sky' fun h3 fl3 up3 => ?_
    obtain ⟨o3, v3, g3, z3, d3⟩ := fl3.there
    -- the exception's place is no frame's, and new
    have nfr : a ∉ frs (X.env :: X.outer) := fun hm => by
      obtain ⟨_, o', e', q⟩ := fl3.2.2.1.mem hm
      rw [g3] at e'
      cases e'
      exact q _ d3
    have nL : a ≠ X.env.locals := fun z => nfr (List.mem_filterMap.mpr ⟨X.env, List.mem_cons_self, hf.trans (congrArg some z.symm)⟩)
    have nF : a ∉ X.fs := fun hm => by
      obtain ⟨e, he, q⟩ := List.mem_filterMap.mp hm
      exact nfr (List.mem_filterMap.mpr ⟨e, List.mem_cons_of_mem _ he, q⟩)
    have fresh : ∀ o, sI.heap.get? a ≠ some o := fun o e => by
      have q := nb' a o e nfr
      rw [fl3.2.1] at q
      cases q
    have new0 : a ∉ X.ex → X.s_0.heap.get? a = none := by
      intro hx
      cases e : X.s_0.heap.get? a with
      | none => rfl
      | some o =>
        obtain ⟨o', e'⟩ := J.base.there a o e hx
        exact absurd e' (fresh o')
    have newC : ∀ y c, X.env.cells.lookup y = some c → c ≠ a := fun y c e z => by
      obtain ⟨v, oc, q, _⟩ := J.cell y c e
      rw [z] at q
      exact fresh _ q
    have newP : ∀ p ∈ X.pn ++ pins, p.1 ≠ a := fun p hp z => by
      have q := (J.pin p hp).1
      rw [z] at q
      exact fresh _ q
    have J3 : Inv X pins σ' H' { s' with heap := h3 } := J.landed nb fl3.1 (up.trans up3) os ag
    have S3 := J3.suite g3 d3 na nL nF
    refine wpAny_handleBy_cons (codeAny_handlers_test ?_) (by intro q; cases q)
    have LM := PySem.W.exm_one (M := model X.prog X.w) (J3.kIn) (show PySem.W.Looks (model X.prog X.w) h3 (typeOf (.ref a)) cls from fun A Q E s k q => wpAny_typeOf_ref (k _ _ g3) (by rw [z3.1]; exact q)) hex
    have test : ∀ {Q : Value → Shared → Prop} {E : Value → Shared → Prop}, Q c { s' with heap := h3 } → wpAny (model X.prog X.w) (X.A.mark (some (.ref a))) (eval (.Name x np) X.env) Q E { s' with heap := h3 } := by
      intro Q E q
      obtain ⟨hg, hdbg, hm | ⟨hm, hv, hnn⟩⟩ := hc
      · exact ld_glob (X := X.suite a ((a, o3) :: (X.pn ++ pins))) S3 hg hm q hdbg
      · exact ld_blt (X := X.suite a ((a, o3) :: (X.pn ++ pins))) S3 hg hm hv q hnn hdbg
    refine test (LM.here (codeAny_handlers_suite_as ?_))
    refine HandSPX.lands_againZ fl3 fun h4 fl4 up4 => ?_
    have J4 : Inv X pins σ' H' { s' with heap := h4 } := J.landed nb fl4.1 ((up.trans up3).trans up4) os ag
    obtain ⟨o4, v4, g4, z4, d4⟩ := fl4.there
    refine store_ok (X := X.suite a ((a, o4) :: (X.pn ++ pins))) (v := .ref a) (J4.suite g4 d4 na nL nF) hN hi (.inl hln) rfl (fun s5 S5 => ?_) (.inr hln)
    refine wpAny_mono ((hsu a o4 cls d (X.pn ++ pins) z4 ⟨_, d4⟩).run [] s5 _ H' _ S5 (hts J.len a na)) (fun f s6 q => ?_) fun _ _ z => z.elim
    cases f with
    | next =>
      obtain ⟨σ6, H6, S6, q6⟩ := q
      refine gone_ok (mine S6 ok) hN hi hln fun s7 J7 => ?_
      have hn : H6 a = none := (J7.pin (a, o4) (List.mem_append_right _ List.mem_cons_self)).2.1
      have g7 := (J7.pin (a, o4) (List.mem_append_right _ List.mem_cons_self)).1
      exact ⟨_, _, seen (unpin J7) hn nL new0 newC newP (show ObjOk X.prog X.w _ _ _ (.ext (Kept cls d a)) from ⟨⟨o4, g7, z4, _, d4⟩, ⟨_, g7⟩, fun h1 h2 ⟨oe, e1, e2⟩ hk => ⟨oe, hk _ e1, e2⟩⟩), q6 hn⟩
    | brk =>
      obtain ⟨_, _, _, z⟩ := q
      exact z.elim
    | cont =>
      obtain ⟨_, _, _, z⟩ := q
      exact z.elim
    | ret u =>
      obtain ⟨_, _, _, _, _, z⟩ := q
      exact z.elim
  refine wpAny_Try_except (wpAny_mono ((hb _ (X.pn ++ pins) hand take PassesOwn.looking).run [] s σ H D (I.toTry _) h) (fun f s1 q => ?_) fun e s1 he => he)
  have q' : SP X pins D f s1 := back q
  cases f with
  | next => exact wpAny_execs_nil q'
  | ret u => exact q'
  | brk => exact q'
  | cont => exact q'
/-- isinstance(e, c), e an exception that was kept -/
def rIsKept (K : PySem.W.Frag) : List V → Hp → VK → Prop := fun xs H Q => ∃ (a D : Addr) (c : V) (cv : Value) (b : Bool), xs = [.ref a, c] ∧ H a = some (.ext (Kept (.ref D) none a)) ∧ ExcC K D ∧ (∀ u, RelV c u → u = cv) ∧ PySem.W.kitOne K (.ref D) cv = some b ∧ Q (.bl b) H
theorem call_isKept : CallR X (.builtin "isinstance") (rIsKept X.K) := by
  intro pins s σ H xs us Q I r h
  obtain ⟨a, D, c, cv, b, rfl, ha, C, hcv, e, q⟩ := h
  cases r with
  | cons rx rr =>
    cases rr with
    | cons rt rr =>
      cases rr
      cases rx
      cases hcv _ rt
      obtain ⟨⟨oe, hget, hz, vs, hv⟩, _, _⟩ := (show ObjOk X.prog X.w H s.heap a (.ext (Kept (.ref D) none a)) from I.hok _ _ ha)
      have J : PySem.W.InstAt s.heap a oe D none := by
        obtain ⟨oc, od, oda, osl⟩ := oe
        obtain ⟨h1, h2⟩ := hz
        dsimp only at h1 h2 hv
        subst h1 h2 hv
        exact ⟨hget, rfl, rfl, trivial⟩
      refine PySem.W.kia_one (PySem.W.handS_kitx_exc C.hg C.hk C.hs C.hd C.ha C.hn C.ht C.hm) I.kIn J e (fun z => nomatch z) fun tk => ?_
      exact ⟨.bl b, H, I.kept (t' := tk) fun _ _ z => z, rfl, q⟩
end
end SWL
set_option Elab.async false
set_option linter.all false
set_option maxRecDepth 100000
set_option maxHeartbeats 4000000
namespace SWL
open PySem PySem.Spec PyProof.Rows L2 LamX
/-! the def that calls what it got and hands back the exception that it caught -/
def TCaught (K : PySem.W.Frag) (CS : Addr) : (XK → Hp → VK → Prop) → Hp → VK → Prop := fun tl H Q =>
  tl (fun cls d H' => PySem.W.exmOne K cls (.ref CS) = some true ∧ ∀ a, H' a = none → Q (.ref a) (upd H' a (.ext (Kept cls d a)))) H (fun _ H' => ∃ v, (some (some V.non) : Option (Option V)) = some (some v) ∧ Q v H')
section
variable {X : Cx}
theorem caught_gives {x a fnd err en q : Str} {sg : Scope} {g CS : Addr} {cdg : Value} {p1 p2 p3 p4 p5 p6 p7 p8 p9 p10 p11 p12 p13 p14 : Pos} {j : Nat}
    (hge : sg.names.lookup en = some .globalImplicit) (hme : X.mg en = some (.ref CS)) (hde : (en == ("__debug__" : Str)) = false)
    (hlf : sg.names.lookup fnd = some .local) (hle : sg.names.lookup err = some .local)
    (hN : [a, fnd, err].Nodup) (df : (fnd == ("__debug__" : Str)) = false) (cf : (fnd == ("__classdict__" : Str)) = false) (de : (err == ("__debug__" : Str)) = false) (ce : (err == ("__classdict__" : Str)) = false) :
    GivesTo X [a, fnd, err] x sg g cdg [.Assign [.Name fnd p1] (.Constant .none j p2) p3, .Try [.Expr (.Call (.Name a p4) [] [] p5) p6] [.ExceptHandler (some (.Name en p7)) (some err) [.Assign [.Name fnd p8] (.Name err p9) p10] p11] [] [] p12, .Return (some (.Name fnd p13)) p14] a q (TCaught X.K CS) := by
  intro f c' s H Q tl act hc h
  have hgl : Gl (cxOf C8.CX0 X.prog X.w X.K X.mg X.base [a, fnd, err] x sg g cdg X.A X.stack s H C8.E0).nox en := hge
  have la : Loc sg fnd := .inl hlf
  have le : Loc sg err := .inl hle
  refine ⟨_, pss_cons (ps_set (X := (cxOf C8.CX0 X.prog X.w X.K X.mg X.base [a, fnd, err] x sg g cdg X.A X.stack s H C8.E0).nox) (i := 1) hN rfl la pe_non (hf := .inr hlf))
    (pss_cons (ps_try_keep (X := (cxOf C8.CX0 X.prog X.w X.K X.mg X.base [a, fnd, err] x sg g cdg X.A X.stack s H C8.E0).nox) (c := .ref CS) (i := 2)
      (tb := fun W D σ H => ∃ Ech : XK, (∀ cls d σ' H', Ech cls d H' → W cls d σ' H') ∧ σ[0]? = some (some (.ref f)) ∧ H c' = some (CodeO c' q) ∧ tl Ech H fun _ H' => D.nx σ H')
      rfl rfl hN rfl hle ⟨hgl, hde, .inl hme⟩ (fun W pn xe tk _ => ?_) (fun a' oe cls d pn _ _ => pss_one (ps_set (i := 1) hN rfl la (pe_var (i := 2) rfl (.inl hle) de ce) (hf := .inr hlf))))
    (pss_one (ps_ret (pe_var (i := 1) rfl (.inl hlf) df cf)))), ?_⟩
  · refine ⟨fun pins s' σ H' D I h' => ?_⟩
    obtain ⟨Ech, hW, h1, h2, h3⟩ := h'
    have hp := act W pn xe Ech p4 p5 tk hW
    exact (pss_one (ps_expr (pos := p6) hp (by rfl))).run pins s' σ H' D I ⟨h1, h2, h3⟩
  · refine ⟨fun cls d H' => PySem.W.exmOne X.K cls (.ref CS) = some true ∧ ∀ a, H' a = none → Q (.ref a) (upd H' a (.ext (Kept cls d a))), fun cls d σ' H' ⟨e1, e2⟩ => ⟨e1, fun hl a' na => ?_⟩, rfl, hc, h⟩
    obtain ⟨s0, s1, s2, rfl⟩ : ∃ s0 s1 s2, σ' = [s0, s1, s2] := by
      match σ', hl with
      | [x, y, z], _ => exact ⟨x, y, z, rfl⟩
    exact ⟨_, rfl, fun na' => ⟨_, rfl, e2 a' na'⟩⟩
end
end SWL
set_option Elab.async false
set_option linter.all false
set_option maxRecDepth 100000
set_option maxHeartbeats 4000000
namespace SWL
open PySem PySem.Spec PyProof.Rows L2 LamX
/-! defs that ask that no guard is in hand (for repr): their promises, their calls, and the end of a law row with them -/
structure FnG (P : Program) (w : World) (K : PySem.W.Frag) (mg : Str → Option Value) (base : Heap) (k : Nat) (f : Addr) (fd : FuncData) (ps : List Str) (sp : Sp) : Prop where
  len : ∀ vs H Q E, sp vs H Q E → vs.length = ps.length
  run : ∀ (A : Around) (outer : List Env) (s : Shared) (H : Hp) (args : Args) (us : List Value) (vs : List V) (Q : VK) (E : XK), A.guards = some [] → Room k A → Env0 P w K mg base A outer s H → BindsTo s fd args (ps.zip us) → Vals vs us → sp vs H Q E →
    codeAny (model P w) A (.call (.ref f) args) (CR CX0 outer P w H s Q E) s
theorem guards_deeper {A : Around} (env : Env) (h : A.guards = some []) : (A.deeper env).guards = some [] := h
section
variable {P : Program} {w : World} {K : PySem.W.Frag} {mg : Str → Option Value} {base : Heap}
theorem fng_ok {x qual : Str} {st : Stmt} {f : Addr} {fd : FuncData} {N ps : List Str} {k : Nat} {sp : Sp} (F : L2.Fun K x qual st f fd) (S : FnScope N ps (defScope st)) (len : ∀ vs H Q E, sp vs H Q E → vs.length = ps.length)
    (hbody : ∀ (cdv : Value) (A : Around) (outer : List Env) (s : Shared) (H : Hp) (vs : List V) (Q : VK) (E : XK), A.guards = some [] → PySem.W.codeIn K cdv qual = true → Room k (A.deeper (envOfC qual (defScope st) s.heap.objs.size f cdv)) → sp vs H Q E →
      ∃ t, PSs (cxOf CX0 P w K mg base N qual (defScope st) f cdv A outer s H E).nox (defBody st) t ∧ t { nx := fun _ H' => Q .non H', rt := Q } (L2.start N vs) H) : FnG P w K mg base (k + 1) f fd ps sp := by
  obtain ⟨oc, od, kV, doc, pm, an, cdv, ct, osl, rfl, lk, hcd⟩ := F.ex
  refine ⟨len, fun A outer s H args us vs Q E gA hr e0 hb r hsp => ?_⟩
  refine run_ofS lk hcd S hr e0 hb r (len _ _ _ _ hsp) fun hr2 => ?_
  obtain ⟨t, h, q⟩ := hbody cdv A outer s H vs Q E gA hcd hr2 hsp
  exact ⟨t, h.nox, q⟩
end
section
variable {X : Cx} {k : Nat} {f : Addr} {fd : FuncData} {ps : List Str} {sp : Sp} {E : XK} {x : Str} {p pos : Pos} {e : Expr} {es : List Expr} {t : TA}
theorem pe_callG (gd : X.A.guards = some []) (F : FnG X.prog X.w X.K X.mg X.base k f fd ps sp) (hr : Room k X.A) (hg : Gl X x) (hm : X.mg x = some (.ref f)) (hk : PySem.W.keepIn X.K (.ref f) = true) (hb : Binds X.K fd ps [])
    (ha : PA X (e :: es) t) (hdb : (x == ("__debug__" : Str)) = false := by decide) (he : starEach (e :: es) X.env = (false, eval e X.env) :: starEach es X.env := by rfl) (hpl : (backTo pos (starEach es X.env)).any (·.1) = false := by rfl) :
    PE X (.Call (.Name x p) (e :: es) [] pos) (tCall sp [] E0 t) := by
  constructor
  intro pins s σ H Q I h
  refine wpAny_Call_Name_kw (ld_glob I hg hm (PySem.W.callWith_K (h₀ := X.base) I.ok.mod.kin hk (thn (ha.run pos pins s σ H _ I h) fun us s1 ⟨vs, H1, I1, r, q⟩ => ⟨I1.kIn, ?_⟩) he hpl) hdb)
  have q : sp vs H1 Q E0 := by
    have z : sp (vs ++ []) H1 Q E0 := q
    rw [List.append_nil] at z
    exact z
  have hl : us.length = ps.length := r.length.symm.trans (F.len _ _ _ _ q)
  have hb1 := hb s1 us I1.kIn (by rw [List.append_nil]; exact hl)
  rw [List.append_nil] at hb1
  refine wpAny_call (codeAny_mono (F.run X.A X.stack s1 H1 ⟨us, []⟩ us vs Q E0 gd hr I1.env0 hb1 r q) fun r s' hq => ?_)
  match r, hq with
  | .error _, z => exact False.elim z
  | .ok (.ret u), z => exact I1.after z
  | .ok .next, z => exact False.elim z
  | .ok .brk, z => exact False.elim z
  | .ok .cont, z => exact False.elim z
end
theorem vals_rev : ∀ {xs : List V} {us : List Value}, Vals xs us → Vals xs.reverse us.reverse
  | _, _, .nil => .nil
  | _, _, .cons h t => by
    rw [List.reverse_cons, List.reverse_cons]
    exact (vals_rev t).append (.cons h .nil)
/-! the end -/
/-- what is tracked at the start: the tables, the script -/
def hp0 (T : List Addr) (a : Addr) (own : Bool) (o : Obj) (xs : List V) : Hp := fun b => if b ∈ T then some (.tbl #[]) else if b = a ∧ own = true then some (.frz o (.lst xs)) else none
theorem hp0_tab {T : List Addr} {a : Addr} {own : Bool} {o : Obj} {xs : List V} {b : Addr} (h : b ∈ T) : hp0 T a own o xs b = some (.tbl #[]) := if_pos h
theorem hp0_cases {T : List Addr} {a : Addr} {own : Bool} {o : Obj} {xs : List V} (b : Addr) : (b ∈ T ∧ hp0 T a own o xs b = some (.tbl #[])) ∨ (b ∉ T ∧ b = a ∧ own = true ∧ hp0 T a own o xs b = some (.frz o (.lst xs))) ∨ (b ∉ T ∧ hp0 T a own o xs b = none) := by
  by_cases h : b ∈ T
  · exact .inl ⟨h, if_pos h⟩
  · by_cases h2 : b = a ∧ own = true
    · exact .inr (.inl ⟨h, h2.1, h2.2, (if_neg h).trans (if_pos h2)⟩)
    · exact .inr (.inr ⟨h, (if_neg h).trans (if_neg h2)⟩)
/-- what is known of the law's promise at the head's heap -/
def LawG (l : PySem.W.OpenLaw) (w : World) (K : PySem.W.Frag) (k n : Nat) (x : Str) (mg : Str → Option Value) (fa : Addr) (h : Heap) : Prop :=
  ∃ (fd : FuncData) (cs : List (Addr × Addr)) (sp : Sp), (∀ p ∈ cs, h.get? p.2 = some { cls := .none, data := .fields #[] }) ∧ (∀ p ∈ cs, K.lookup p.2 = none) ∧ (∀ p ∈ cs, PySem.W.CodeHd h p.1 p.2) ∧ (∀ (s : Shared) (u : Value), BindsTo s fd ⟨[u], []⟩ [(x, u)]) ∧
    (∀ (H : Hp) (a : Addr) (ns : List Int), ns.length ≤ n → (∀ z ∈ ns, Builtin.Int.intBits z ≤ 1048576) → (∀ p ∈ cs, H p.2 = some (.tbl #[])) → SqL K H a (ns.map V.int) → sp [.ref a] H (fun v _ => v = .bl true) fun _ _ _ => False) ∧
    ∀ base : Heap, K.In base → base.Ns mainGlobals mg → (∀ p ∈ cs, TabB base mg p.1 p.2) → FnG l.prog w K mg base k fa fd [x] sp
theorem law_callG {P : Program} {w : World} {K : PySem.W.Frag} {mg mb : Str → Option Value} {k : Nat} {fa a : Addr} {cs : List (Addr × Addr)} {fd : FuncData} {x : Str} {sp : Sp} {s : Shared} {vs : List Value} {ns : List Int}
    (KX : K.In s.heap) (hns : s.heap.Ns mainGlobals mg) (hb : s.heap.Ns builtinsNs mb) (hbb : ∀ x : Str, x ≠ "__name__" → mb x = bootBuiltins x) (hlim : s.heap.NoLimit) (hg : s.gens = #[])
    (hT : ∀ p ∈ cs, s.heap.get? p.2 = some { cls := .none, data := .fields #[] }) (nT : ∀ p ∈ cs, K.lookup p.2 = none) (C : ∀ p ∈ cs, PySem.W.CodeHd s.heap p.1 p.2)
    (hbm : ∃ (bm : Addr) (ob : Obj), mg "__builtins__" = some (.ref bm) ∧ bm ≠ builtinsNs ∧ s.heap.get? bm = some ob ∧ ob.cls = .type "module" ∧ ob.dict = some builtinsNs ∧ ob.data = .plain)
    (ha : s.heap.get? a = some { cls := .type "list", data := .seq vs.toArray }) (hi : IntsAre vs ns) (hl : ns.length ≤ sizeLine) (hr : Room k callerA)
    (F : ∀ base : Heap, K.In base → base.Ns mainGlobals mg → (∀ p ∈ cs, TabB base mg p.1 p.2) → FnG P w K mg base k fa fd [x] sp) (hbind : ∀ (s : Shared) (u : Value), BindsTo s fd ⟨[u], []⟩ [(x, u)])
    (hsp : ∀ H : Hp, (∀ p ∈ cs, H p.2 = some (.tbl #[])) → SqL K H a (ns.map V.int) → sp [.ref a] H (fun v _ => v = .bl true) fun _ _ _ => False) :
    codeAny (model P w) callerA (.call (.ref fa) ⟨[.ref a], []⟩) (fun r s' => r = .ok (.ret (.bool true)) ∧ OldK s.heap s'.heap ∧ s'.os = s.os ∧ AllBare s'.gens) s := by
  generalize hTs : cs.map (·.2) = T
  have inT : ∀ {p}, p ∈ cs → p.2 ∈ T := fun hp => by rw [← hTs]; exact List.mem_map.mpr ⟨_, hp, rfl⟩
  have ofT : ∀ {b}, b ∈ T → ∃ p ∈ cs, p.2 = b := fun hb => by rw [← hTs] at hb; exact List.mem_map.mp hb
  have atT : ∀ {b}, b ∈ T → s.heap.get? b = some { cls := .none, data := .fields #[] } := fun hb => by
    obtain ⟨p, hp, e⟩ := ofT hb
    rw [← e]
    exact hT p hp
  let os : Obj := { cls := .type "list", data := .seq vs.toArray }
  let own : Bool := (K.lookup a).isNone
  let H : Hp := hp0 T a own os (ns.map V.int)
  have aT : a ∉ T := fun z => by
    have q := (atT z).symm.trans ha
    cases q
  have rv := vals_ints hi
  have hHT : ∀ p ∈ cs, H p.2 = some (.tbl #[]) := fun p hp => hp0_tab (inT hp)
  have seq : SqL K H a (ns.map V.int) := by
    cases e : K.lookup a with
    | some o =>
      have z := (KX a o e).symm.trans ha
      cases z
      exact .inr ⟨_, vs.toArray, _, e, rfl, rfl, rfl, by rw [List.size_toArray, hi.length]; exact hl, by simpa using rv⟩
    | none =>
      have hown : own = true := by show (K.lookup a).isNone = true; rw [e]; rfl
      exact .inl (.inr ⟨os, (if_neg aT).trans (if_pos ⟨rfl, hown⟩)⟩)
  have hok : HOk P w H s.heap := fun b u e => by
    rcases hp0_cases (T := T) (a := a) (own := own) (o := os) (xs := ns.map V.int) b with ⟨h1, h2⟩ | ⟨_, rfl, _, h2⟩ | ⟨_, h2⟩
    · cases (show H b = some (.tbl #[]) from h2).symm.trans e
      exact atT h1
    · cases (show H b = _ from h2).symm.trans e
      exact ⟨ha, by rw [List.length_map]; exact hl, vs, _, rv, ha⟩
    · cases (show H b = none from h2).symm.trans e
  -- what is no list and no empty table is untracked
  have un0 : ∀ {b : Addr} {o : Obj}, s.heap.get? b = some o → (∀ vs n, o.data ≠ .seq vs n) → o.data ≠ .fields #[] → H b = none := fun {b o} e h1 h2 => by
    rcases hp0_cases (T := T) (a := a) (own := own) (o := os) (xs := ns.map V.int) b with ⟨q1, _⟩ | ⟨_, rfl, _, _⟩ | ⟨_, q⟩
    · cases e.symm.trans (atT q1)
      exact absurd rfl h2
    · cases e.symm.trans ha
      exact absurd rfl (h1 _ _)
    · exact q
  have hid : ∀ {b o}, s.heap.get? b = some o → H b = none → (hidT s.heap H).get? b = some o := fun e n => hidT_get e n
  have hidNs : ∀ {b m}, s.heap.Ns b m → (hidT s.heap H).Ns b m := fun ⟨o, es, ep, e, d, r⟩ => ⟨o, es, ep, hid e (un0 e (fun _ _ z => by rw [d] at z; cases z) fun z => by rw [d] at z; cases z), d, r⟩
  have hKb : K.In (hidT s.heap H) := fun b o e => hid (KX b o e) (by
    rcases hp0_cases (T := T) (a := a) (own := own) (o := os) (xs := ns.map V.int) b with ⟨q1, _⟩ | ⟨_, rfl, q2, _⟩ | ⟨_, q⟩
    · obtain ⟨p, hp, rfl⟩ := ofT q1
      cases (nT p hp).symm.trans e
    · have q3 : (K.lookup b).isNone = true := q2
      rw [e] at q3
      cases q3
    · exact q)
  have hM : L2.Mod K mg (hidT s.heap H) := by
    obtain ⟨mc, h1, h2⟩ := hlim
    exact ⟨hKb, hidNs hns, ⟨mb, hidNs hb, hbb⟩, mc, hidNs h1, h2⟩
  have TB : ∀ p ∈ cs, TabB (hidT s.heap H) mg p.1 p.2 := fun p hp => by
    have tp := hT p hp
    refine ⟨?_, ?_, fun z => ?_⟩
    · obtain ⟨o, us, file, tf, flags, tg, inF, text, tt, e1, r1, r2, r3, rest⟩ := C p hp
      refine ⟨o, us, file, tf, flags, tg, inF, text, tt, hid e1 (un0 e1 (fun _ _ z => by rw [r2] at z; cases z) fun z => ?_), r1, r2, r3, rest⟩
      rw [r2] at z
      cases z
      simp at r3
    · obtain ⟨bm, ob, b1, b2, b3, b4, b5, b6⟩ := hbm
      refine ⟨bm, ob, b1, b2, fun q => ?_, fun q => ?_, hid b3 (un0 b3 (fun _ _ z => by rw [b6] at z; cases z) fun z => by rw [b6] at z; cases z), b4, b5, b6⟩
      · obtain ⟨o, es, ep, e, hd, _⟩ := hns
        rw [q] at b3
        cases e.symm.trans b3
        cases hd.symm.trans b6
      · rw [q] at b3
        cases tp.symm.trans b3
        cases b6
    · obtain ⟨o, es, ep, e, hd, _⟩ := hns
      rw [z] at e
      cases tp.symm.trans e
      cases hd
  have e0 : Env0 P w K mg (hidT s.heap H) callerA [] s H := ⟨rfl, hM, fun b o e => of_hidT e, Nat.le_of_eq (hidT_size _ _), trivial, fun b hb => absurd (show b ∈ ([] : List Addr) from hb) (by simp), hok, .of_eq hg⟩
  refine codeAny_mono ((F _ hKb (hidNs hns) TB).run callerA [] s H ⟨[.ref a], []⟩ [.ref a] [.ref a] _ _ rfl hr e0 (hbind s (.ref a)) (.cons rfl .nil) (hsp H hHT seq)) fun r s' h => ?_
  match r, h with
  | .error _, z => exact False.elim z
  | .ok .next, z => exact False.elim z
  | .ok .brk, z => exact False.elim z
  | .ok .cont, z => exact False.elim z
  | .ok (.ret u), z =>
    obtain ⟨v, H', eos, bare, un, hok', rv', q⟩ := z
    cases (show v = .bl true from q)
    cases (show u = Value.bool true from rv')
    have same : ∀ b o, b ∉ T → s.heap.get? b = some o → s'.heap.get? b = some o := fun b o nb e => by
      rcases hp0_cases (T := T) (a := a) (own := own) (o := os) (xs := ns.map V.int) b with ⟨q1, _⟩ | ⟨_, rfl, _, q1⟩ | ⟨_, q1⟩
      · exact absurd q1 nb
      · have z2 := (hok' b _ (un.frzs b _ _ q1)).1
        cases e.symm.trans ha
        exact z2
      · exact un.keep b o e q1 (fun z => absurd (show b ∈ ([] : List Addr) from z) (by simp)) (by simp)
    have grown : ∀ p ∈ cs, ∃ more : Array Value, s'.heap.get? p.2 = some { cls := .none, data := .fields more } := fun p hp => by
      obtain ⟨more, z⟩ := un.tbls p.2 #[] (hHT p hp)
      exact ⟨_, hok' p.2 _ z⟩
    refine ⟨rfl, ⟨fun b o e => ?_, fun b o e => ?_⟩, eos, bare⟩
    · by_cases hb : b ∈ T
      · obtain ⟨p, hp, rfl⟩ := ofT hb
        obtain ⟨more, hm⟩ := grown p hp
        cases e.symm.trans (hT p hp)
        exact .inr (.inl ⟨((C p hp).tab (hT p hp)).isCodeTable, rfl, #[], more, rfl, by rw [Array.empty_append]; exact hm⟩)
      · exact .inl (same b o hb e)
    · by_cases hb : b ∈ T
      · obtain ⟨p, hp, rfl⟩ := ofT hb
        obtain ⟨more, hm⟩ := grown p hp
        exact ⟨_, hm⟩
      · exact ⟨o, same b o hb e⟩
theorem walk_ofG {l : PySem.W.OpenLaw} {n k : Nat} {q : Program} {loose : List Str} {XP : (Str → Option Value) → Heap → Prop} {YP : World → Heap → Prop} {d : DefRec} {K : Params → PySem.W.Frag} {x : Str}
    (hn : l.most = some n) (hn2 : n ≤ sizeLine) (hdf : d.params.defaults = []) (hr : Room k callerA) (hY : ∀ (w : World) (h : Heap), YP w h → (K w.params).In h)
    (F : ∀ (w : World) (mg : Str → Option Value) (fa : Addr) (h : Heap) (lo : List Str) (mean : ExcName → Option Value) (mb : Str → Option Value), Top q lo mean mg mb h → YP w h → (K w.params).In h → h.Ns mainGlobals mg → mg d.name = some (.ref fa) → LawG l w (K w.params) k n x mg fa h) :
    PySem.W.WalkO q loose XP YP l.row.toRowW d [] (fun f vs => PySem.call f vs) := by
  refine Att.attach_callB hn hdf fun w s₀ s₁ mg mb fa o pm cd doc a vs ns G Y ho hd hcd hmg hobj hints hlen hbits hg => ?_
  obtain ⟨fd, cs, sp, hT, nT, C, hb, hsp, hF⟩ := F w mg fa _ _ _ _ G.T Y (hY w _ Y) G.T.g hmg
  exact law_callG (hY w _ Y) G.T.g G.T.b G.T.builtins G.T.nolimit hg hT nT C G.T.bmain hobj hints (Nat.le_trans hlen hn2) hr hF hb fun H hH hS => hsp H a ns hlen hbits hH hS
end SWL
set_option Elab.async false
set_option linter.all false
set_option maxRecDepth 100000
set_option maxHeartbeats 4000000
namespace SWL
open PySem PySem.Spec PyProof.Rows L2 LamX
/-! f(k = v, ..) without a positional value; comprehensions whose turns only grow the heap -/
section
variable {X : Cx} {CX : CXT} {k : Nat} {f : Addr} {fd : FuncData} {ps ks : List Str} {sp : Sp} {E : XK} {x : Str} {p pos : Pos} {kws : List Keyword} {tk : TA} {g : List Value → List Value → List Value} {gV : List V → List V → List V}
def tKw (sp : Sp) (gV : List V → List V → List V) (E : XK) (tk : TA) : TE := fun σ H Q => tk σ H fun zs H2 => sp (gV [] zs) H2 Q E
theorem pe_kwCall (F : FnOk X.prog X.w X.K X.mg X.base CX k f fd ps sp) (hr : Room k X.A) (hg : Gl X x) (hm : X.mg x = some (.ref f)) (hk : PySem.W.keepIn X.K (.ref f) = true) (hb : KBinds X.K fd ps ks g gV) (hx : Passes CX X E)
    (hkw : PK X kws tk) (hall : (backToKw pos (keywordEach kws X.env)).all (·.1.isSome) = true := by rfl) (hks : (backToKw pos (keywordEach kws X.env)).filterMap (·.1) = ks := by rfl)
    (hdb : (x == ("__debug__" : Str)) = false := by decide)
    (hpl : ((backTo pos (starEach [] X.env)).any (·.1) || (backToKw pos (keywordEach kws X.env)).any (·.1.isNone)) = false := by rfl) :
    PE X (.Call (.Name x p) [] kws pos) (tKw sp gV E tk) := by
  constructor
  intro pins s σ H Q I h
  refine wpAny_Call_Name_kw (ld_glob I hg hm (PySem.W.callWith_KW0 (h₀ := X.base) I.ok.mod.kin hk hall ?_ hpl) hdb)
  refine thn (hkw.run pos pins s σ H _ I h) fun ws s2 ⟨zs, H2, I2, rz, q2⟩ => ⟨I2.kIn, ?_⟩
  rw [hks]
  exact run_fnk (us := []) (vs := []) F hr hb hx I2 .nil rz q2
end
theorem take_snoc {α : Type} : ∀ {l : List α} {i : Nat} {x : α}, l[i]? = some x → l.take (i + 1) = l.take i ++ [x] := fun {l i x} h => by rw [List.take_add_one, h]; rfl
theorem compF {J : It} {G : Hp → Prop} {xs : List V} (w : Walk J xs.length G (YAt xs)) (p : V → Bool) (f : V → V) {i : Nat} {tt : TT} {te : TE} {σ : L2.St} {H1 : Hp} {D : Addr} {Qd : Hp → Prop} (nD : H1 D = none) (hG : ∀ H, Grows H1 H → G H) (hz : (xs.filter p).length ≤ sizeLine)
    (htt : ∀ x H k, x ∈ xs → Grows H1 H → (∀ H', Grows H H' → k (p x) H') → tt ((σ.set i none).set i (some x)) H k)
    (hte : ∀ x H Q, x ∈ xs → p x = true → Grows H1 H → (∀ H', Grows H H' → Q (f x) H') → te ((σ.set i none).set i (some x)) H Q)
    (hd : ∀ H, Grows H1 H → H D = some (.lst ((xs.filter p).map f)) → Qd H) :
    ∃ W : Nat → Nat → Hp → Prop, (∃ m, W 0 m (upd H1 D (.lst []))) ∧ ∀ n m H, W n m H →
      (J.stop n H ∧ Qd H) ∨ (J.go n H ∧ ∃ Nx : Hp → Prop, (∀ H', Nx H' → ∃ m', m' < m ∧ W (n + 1) m' H') ∧ ∀ x H', J.yld n H x H' → gName i x (wipe σ [i]) H' fun σ2 H2 => wipe σ2 [i] = wipe σ [i] ∧ tt σ2 H2 fun b H3 =>
        if b = true then te σ2 H3 fun y H4 => ∃ acc, H4 D = some (.lst acc) ∧ acc.length < sizeLine ∧ Nx (upd H4 D (.lst (acc ++ [y]))) else Nx H3) := by
  have gU : ∀ {H : Hp} {o : HO}, Grows H1 H → Grows H1 (upd H D o) := fun g b u e => by
    rw [upd_ne (ne_of_none e nD)]
    exact g b u e
  refine lc_it w (fun n H => Grows H1 H ∧ H D = some (.lst (((xs.take n).filter p).map f))) ⟨Grows.new nD, by rw [upd_same]; rfl⟩ (fun n H _ h => hG H h.1) (fun n x H H' hn ⟨g, hD⟩ ⟨e, hx⟩ => ?_) fun H ⟨g, hD⟩ => hd H g (by rw [List.take_length] at hD; exact hD)
  subst e
  have hm : x ∈ xs := List.mem_of_getElem? hx
  refine ⟨by show (((σ.set i none).set i (some x)).set i none) = σ.set i none; simp, ?_⟩
  refine htt x H' _ hm g fun H2 g2 => ?_
  have et : ((xs.take (n + 1)).filter p).map f = ((xs.take n).filter p).map f ++ (if p x = true then [f x] else []) := by
    rw [take_snoc hx, List.filter_append, List.map_append]
    by_cases hp : p x = true <;> simp [hp]
  by_cases hp : p x = true
  · rw [if_pos hp]
    refine hte x H2 _ hm hp (g.trans g2) fun H3 g3 => ?_
    refine ⟨_, g3 _ _ (g2 _ _ hD), ?_, gU ((g.trans g2).trans g3), ?_⟩
    · rw [List.length_map]
      have hs : ((xs.take (n + 1)).filter p).length ≤ (xs.filter p).length := ((List.take_sublist (n + 1) xs).filter p).length_le
      rw [take_snoc hx, List.filter_append, List.length_append] at hs
      have h1 : ([x].filter p).length = 1 := by simp [hp]
      omega
    · rw [upd_same, et, if_pos hp]
  · rw [if_neg hp]
    refine ⟨g.trans g2, ?_⟩
    rw [et, if_neg hp, List.append_nil]
    exact g2 _ _ hD
theorem comp {J : It} {G : Hp → Prop} {xs : List V} (w : Walk J xs.length G (YAt xs)) (p : V → Bool) (f : V → V) {i : Nat} {tt : TT} {te : TE} {σ : L2.St} {H1 : Hp} {D : Addr} {Qd : Hp → Prop} (nD : H1 D = none) (hG : ∀ H, Grows H1 H → G H) (hz : xs.length ≤ sizeLine)
    (htt : ∀ x H k, x ∈ xs → Grows H1 H → (∀ H', Grows H H' → k (p x) H') → tt ((σ.set i none).set i (some x)) H k)
    (hte : ∀ x H Q, x ∈ xs → p x = true → Grows H1 H → (∀ H', Grows H H' → Q (f x) H') → te ((σ.set i none).set i (some x)) H Q)
    (hd : ∀ H, Grows H1 H → H D = some (.lst ((xs.filter p).map f)) → Qd H) :
    ∃ W : Nat → Nat → Hp → Prop, (∃ m, W 0 m (upd H1 D (.lst []))) ∧ ∀ n m H, W n m H →
      (J.stop n H ∧ Qd H) ∨ (J.go n H ∧ ∃ Nx : Hp → Prop, (∀ H', Nx H' → ∃ m', m' < m ∧ W (n + 1) m' H') ∧ ∀ x H', J.yld n H x H' → gName i x (wipe σ [i]) H' fun σ2 H2 => wipe σ2 [i] = wipe σ [i] ∧ tt σ2 H2 fun b H3 =>
        if b = true then te σ2 H3 fun y H4 => ∃ acc, H4 D = some (.lst acc) ∧ acc.length < sizeLine ∧ Nx (upd H4 D (.lst (acc ++ [y]))) else Nx H3) :=
  compF w p f nD hG (Nat.le_trans (List.length_filter_le p xs) hz) htt hte hd
/-- the signs of a text -/
theorem walk_signs (z : Str) : Walk (Its z) (signsV z).length (fun _ => True) (YAt (signsV z)) := by
  have hn : (signsV z).length = z.cps.size := by unfold signsV; simp
  rw [hn]
  refine walk_str.mono (fun _ _ => trivial) fun i H x H' hi _ ⟨e, c, hc, ex⟩ => ⟨e, ?_⟩
  unfold signsV
  rw [List.getElem?_map, Array.getElem?_toList, hc, ex]
  rfl
theorem signs_len (z : Str) : (signsV z).length = z.length := by
  unfold signsV
  rw [List.length_map, Array.length_toList]
  rfl
theorem signs_mem {z : Str} {x : V} (h : x ∈ signsV z) : ∃ c, c ∈ z.cps.toList ∧ x = .str ⟨#[c]⟩ := by
  obtain ⟨c, hc, rfl⟩ := List.mem_map.mp h
  exact ⟨c, hc, rfl⟩
theorem filter_yes {α : Type} (l : List α) : l.filter (fun _ => true) = l := List.filter_eq_self.mpr fun _ _ => rfl
end SWL
set_option Elab.async false
set_option linter.all false
set_option maxRecDepth 100000
set_option maxHeartbeats 4000000
namespace SWL
open PySem PySem.Spec PyProof.Rows L2 LamX
/-! a comprehension over zip(text, text) -/
theorem walk_pairs (x y : Str) : Walk (PairsS x y) (x.cps.toList.zip y.cps.toList).length (fun _ => True) (fun i H v H' => ∃ (T : Addr) (c d : Nat), v = .ref T ∧ H T = none ∧ H' = upd H T (.tup [.str ⟨#[c]⟩, .str ⟨#[d]⟩]) ∧ (x.cps.toList.zip y.cps.toList)[i]? = some (c, d)) := by
  have hn : (x.cps.toList.zip y.cps.toList).length = min x.cps.size y.cps.size := by simp
  rw [hn]
  refine ⟨fun _ _ hi _ => hi, fun _ _ => rfl, fun i H v H' hi _ q => ?_⟩
  obtain ⟨T, c, d, h1, h2, h3, h4, h5⟩ := q
  exact ⟨T, c, d, h1, h2, h3, List.getElem?_zip_eq_some.mpr ⟨by rw [Array.getElem?_toList]; exact h4, by rw [Array.getElem?_toList]; exact h5⟩⟩
theorem compZ {K : PySem.W.Frag} {x y : Str} (f : Nat × Nat → V) {i j : Nat} {te : TE} {σ : L2.St} {H1 : Hp} {D : Addr} {Qd : Hp → Prop} (nD : H1 D = none) (hij : i ≠ j) (hz : x.length ≤ sizeLine)
    (hte : ∀ c d H Q, (c, d) ∈ x.cps.toList.zip y.cps.toList → Grows H1 H → (∀ H', Grows H H' → Q (f (c, d)) H') → te ((((σ.set j none).set i none).set i (some (.str ⟨#[c]⟩))).set j (some (.str ⟨#[d]⟩))) H Q)
    (hd : ∀ H, Grows H1 H → H D = some (.lst ((x.cps.toList.zip y.cps.toList).map f)) → Qd H) :
    ∃ W : Nat → Nat → Hp → Prop, (∃ m, W 0 m (upd H1 D (.lst []))) ∧ ∀ n m H, W n m H →
      ((PairsS x y).stop n H ∧ Qd H) ∨ ((PairsS x y).go n H ∧ ∃ Nx : Hp → Prop, (∀ H', Nx H' → ∃ m', m' < m ∧ W (n + 1) m' H') ∧ ∀ x' H', (PairsS x y).yld n H x' H' → gTup K 2 (gCons (gName i) (gCons (gName j) gNil)) x' (wipe σ [i, j]) H' fun σ2 H2 => wipe σ2 [i, j] = wipe σ [i, j] ∧ tYes σ2 H2 fun b H3 =>
        if b = true then te σ2 H3 fun y H4 => ∃ acc, H4 D = some (.lst acc) ∧ acc.length < sizeLine ∧ Nx (upd H4 D (.lst (acc ++ [y]))) else Nx H3) := by
  have gU : ∀ {H : Hp} {o : HO}, Grows H1 H → Grows H1 (upd H D o) := fun g b u e => by
    rw [upd_ne (ne_of_none e nD)]
    exact g b u e
  refine lc_it (walk_pairs x y) (fun n H => Grows H1 H ∧ H D = some (.lst (((x.cps.toList.zip y.cps.toList).take n).map f))) ⟨Grows.new nD, by rw [upd_same]; rfl⟩ (fun n H _ h => trivial) (fun n v H H' hn ⟨g, hD⟩ ⟨T, c, d, hv, hT, hH', hcd⟩ => ?_) fun H ⟨g, hD⟩ => hd H g (by rw [List.take_length] at hD; exact hD)
  subst hH'
  have gT : Grows H (upd H T (.tup [.str ⟨#[c]⟩, .str ⟨#[d]⟩])) := Grows.new hT
  refine ⟨T, _, hv, .inl (.inl upd_same), rfl, _, _, rfl, _, _, rfl, rfl, ?_, ?_⟩
  · show (((((σ.set j none).set i none).set i _).set j _).set j none).set i none = (σ.set j none).set i none
    simp only [List.set_set]
    rw [List.set_comm _ _ hij]
    simp only [List.set_set]
  · refine hte c d _ _ (List.mem_of_getElem? hcd) (g.trans gT) fun H3 g3 => ?_
    refine ⟨_, g3 _ _ (gT _ _ hD), ?_, gU ((g.trans gT).trans g3), ?_⟩
    · rw [List.length_map, List.length_take]
      have : (x.cps.toList.zip y.cps.toList).length ≤ x.length := by
        rw [List.length_zip, Array.length_toList]
        exact Nat.min_le_left _ _
      omega
    · rw [upd_same, take_snoc hcd, List.map_append]
      rfl
end SWL
set_option Elab.async false
set_option linter.all false
set_option maxRecDepth 100000
set_option maxHeartbeats 4000000
namespace SWL
open PySem PySem.Spec PyProof.Rows L2 LamX
/-! enumerate(tuple); text * int -/
def IteT (K : PySem.W.Frag) (a : Addr) : It :=
  ⟨fun i H => ∃ (xs : List V) (x : V), SqT K H a xs ∧ xs[i]? = some x, fun i H v H' => ∃ T x, v = .ref T ∧ H T = none ∧ H' = upd H T (.tup [.int (i : Nat), x]) ∧ ∀ xs, SqT K H a xs → xs[i]? = some x, fun i H => ∃ xs : List V, SqT K H a xs ∧ xs.length = i⟩
theorem turn_enumT {P : Program} {w : World} {K : PySem.W.Frag} {elts : List Expr} {kk : Nat} {tpos : Pos} (a e it : Addr) :
    Turn P w K (.Tuple elts kk tpos) (IteT K a) [e, it] e (fun i h => (∃ old, IsEnum h e it (0 + ((i : Nat) : Int)) old) ∧ h.IsTupleIter it a i ∧ e ≠ it ∧ a ≠ it ∧ e ≠ a) where
  mem := by simp
  obj := fun i h st b hb => by
    obtain ⟨⟨old, he⟩, ⟨o, ho, hc, hd⟩, _⟩ := st
    rcases (by simpa using hb : b = e ∨ b = it) with z | z
    · exact ⟨_, by rw [z]; exact he, fun v q => by cases q⟩
    · exact ⟨o, by rw [z]; exact ho, fun v q => by rw [hd] at q; cases q⟩
  keep := fun i h h' st k => let ⟨⟨old, he⟩, hi, hne⟩ := st; ⟨⟨old, k e (by simp) _ he⟩, hi.at fun o q => k it (by simp) o q, hne⟩
  item := by
    intro X hP hw hK hc i pins s σ H E I hf st hg
    subst hP hw hK
    have hh : X.A.handled = none := I.ok.hd hc
    obtain ⟨xs, x, hq, hx⟩ := hg
    obtain ⟨its, rv, p, hz⟩ := I.tuple hq
    obtain ⟨he, hit, hne, hai, hea⟩ := st
    have G := GoesN.enumFrom (elts := elts) (x1 := kk) (pos := tpos) 0 (Draws.tuple (prog := X.prog) (w := X.w) (A := X.A.in1) hh it a hai its.toArray) e hne (by simp [hne, hea]) (by simp)
    have hlt : i < its.toArray.size := by
      have := (List.getElem?_eq_some_iff.mp hx).1
      have := rv.length
      simp
      omega
    refine G.goes i s _ E hlt ⟨he, hit, p⟩ fun v h' tk hY st' hk _ => ?_
    obtain ⟨T, t, u, rfl, hT, hu, hTup⟩ := hY
    have fr : H T = none := I.hok.fresh hT
    have ru : RelV x u := by
      obtain ⟨u', hu', ru⟩ := rv.get hx
      have e : its.toArray[i]? = some u' := by simpa using hu'
      rw [e] at hu
      cases hu
      exact ru
    refine ⟨.ref T, upd H T (.tup [.int (i : Nat), x]), I.turnedNew (t' := tk) (ch := [e, it]) hk hf hT ?_, rfl, ⟨T, x, rfl, fr, rfl, fun ys hy => by rw [I.tuple_inj hy hq]; exact hx⟩, ⟨st'.1, st'.2.1, hne, hai, hea⟩, fun b hb => ?_⟩
    · refine ⟨by show 2 ≤ sizeLine; decide, _, .cons ⟨t, ?_⟩ (.cons ru .nil), hTup⟩
      rw [Int.zero_add]
    · have hlt2 : b < s.heap.objs.size := by
        obtain ⟨old, he⟩ := he
        obtain ⟨o, ho, _⟩ := hit
        rcases (by simpa using hb : b = e ∨ b = it) with z | z
        · rw [z]; exact Heap.lt_size he
        · rw [z]; exact Heap.lt_size ho
      rw [upd_ne (Nat.ne_of_lt (Nat.lt_of_lt_of_le hlt2 hT))]
      exact (hf b hb).1
  done := by
    intro X hP hw hK hc i pins s σ H E I hf st hg
    subst hP hw hK
    have hh : X.A.handled = none := I.ok.hd hc
    obtain ⟨xs, hq, hx⟩ := hg
    obtain ⟨its, rv, p, hz⟩ := I.tuple hq
    obtain ⟨he, hit, hne, hai, hea⟩ := st
    have G := GoesN.enumFrom (elts := elts) (x1 := kk) (pos := tpos) 0 (Draws.tuple (prog := X.prog) (w := X.w) (A := X.A.in1) hh it a hai its.toArray) e hne (by simp [hne, hea]) (by simp)
    have hi : i = its.toArray.size := by
      have := rv.length
      simp
      omega
    rw [hi] at he hit
    exact G.stops s _ E ⟨he, hit, p⟩ fun h' tk hk _ => I.turnedL (t' := tk) (ch := [e, it]) hk hf
  self := fun A i s Q E st h => let ⟨⟨_, he⟩, _⟩ := st; wpAny_pyIter_enum he h
set_option maxHeartbeats 8000000 in
theorem meets_enum1 {v : Value} {o : Obj} {I : Heap → Prop} (B : Begins v o I) : Meets (Builtin.«enumerate.__new__» ⟨[.type "enumerate", v], []⟩) (fun _ R s => I s.heap ∧
      R (.ok (.ret (.ref (s.heap.push o).objs.size))) { s with heap := (s.heap.push o).push { cls := .type "enumerate", data := .fields #[.none, .bool false, .ref s.heap.objs.size, rawInt 0, .none, .none] } }) :=
  .of_wp fun prog w A R s h => by
    obtain ⟨hp, g, d, tk, os⟩ := s
    obtain ⟨h1, h⟩ := h
    have hsub := sub_enumerate
    have beg : ∀ {A' : Around} {E : Value → Shared → Prop} {Q : Value → Shared → Prop}, Q (.ref hp.objs.size) ⟨hp.push o, g, d, tk, os⟩ → wpAny (model prog w) A' (pyIter v) Q E ⟨hp, g, d, tk, os⟩ := fun q => B.iter prog w _ _ ⟨hp, g, d, tk, os⟩ _ h1 q
    wp_walk using beg
    refine wpAny_stack_any fun st => wpAny_pure ?_
    split
    · rename_i c _ _ _ _ _
      cases (c == Value.type "enumerate")
      · wp_walk using beg
        exact ⟨_, rfl, h⟩
      · wp_walk using beg
        exact ⟨_, rfl, h⟩
    · wp_walk using beg
      exact ⟨_, rfl, h⟩
theorem call_enum1 {prog : Program} {w : World} {A : Around} {E : Value → Shared → Prop} {s : Shared} {v : Value} {o : Obj} {I : Heap → Prop} {Q : Value → Shared → Prop} (B : Begins v o I) (h1 : I s.heap)
    (h : ∀ h', IsEnum h' (s.heap.objs.size + 1) s.heap.objs.size 0 .none → h'.get? s.heap.objs.size = some o → (∀ b o, s.heap.get? b = some o → h'.get? b = some o) → Q (.ref (s.heap.objs.size + 1)) { s with heap := h' }) :
    wpAny (model prog w) A (call (.type "enumerate") [v]) Q E s := by
  refine callType_new F.called_enumerate (by decide) (F.typeCall_enumerate_1 _) (F.newCall_enumerate_1 _) (fun obj => F.args_object_init_2 obj _) F.entry_enumerate_new (meets_enum1 B) ⟨h1, ?_⟩
  have hz : (s.heap.push o).objs.size = s.heap.objs.size + 1 := Heap.size_push ..
  show _ ∧ _
  rw [hz]
  have he : IsEnum ((s.heap.push o).push { cls := .type "enumerate", data := .fields #[.none, .bool false, .ref s.heap.objs.size, rawInt 0, .none, .none] }) (s.heap.objs.size + 1) s.heap.objs.size 0 .none := by
    have q := Heap.get?_push_size (s.heap.push o) (o := { cls := .type "enumerate", data := .fields #[.none, .bool false, .ref s.heap.objs.size, rawInt 0, .none, .none] }) rfl
    rw [hz] at q
    exact q
  exact ⟨⟨_, he, rfl⟩, h _ he (Heap.get?_push_of_some _ (Heap.get?_push_size _ B.free)) fun b o x => Heap.get?_push_of_some _ (Heap.get?_push_of_some _ x)⟩
def iEnumT (K : PySem.W.Frag) (ta : TA) : TI := fun σ H R => ta σ H fun vs H1 => ∃ a xs, vs = [.ref a] ∧ SqT K H1 a xs ∧ R (IteT K a) H1
theorem pi_enumT {X : Cx} {e : Expr} {ta : TA} {p pos tpos : Pos} {elts : List Expr} {kk : Nat} (hg : Gl X "enumerate") (hm : X.mg "enumerate" = none) (ha : PA X [e] ta) (hs : starEach [e] X.env = [(false, eval e X.env)] := by rfl) :
    PI X (.Tuple elts kk tpos) (.Call (.Name "enumerate" p) [e] [] pos) (iEnumT X.K ta) := by
  refine ⟨fun pins s σ H R I h => ?_⟩
  refine Call_ (ld_blt I hg hm boot_enumerate (PyProof.Rows.callWith_type1 (thn (ha.run pos pins s σ H _ I h) fun us s1 ⟨vs, H1, I1, r1, q1⟩ => ?_) hs rfl))
  obtain ⟨a, xs, rfl, hq, q⟩ := q1
  obtain ⟨u, rfl, ru⟩ := vals1 r1
  cases ru
  obtain ⟨its, rv, p', hz⟩ := I1.tuple hq
  refine call_enum1 (begins_tuple a its.toArray) p' fun h' he hit hk => wpAny_pyIter_enum he ?_
  have I2 : Inv X pins σ H1 { s1 with heap := h' } := I1.kept (t' := s1.toks) hk
  have hal : a < s1.heap.objs.size := by
    obtain ⟨o, ho, _⟩ := p'
    exact Heap.lt_size ho
  refine ⟨s1.heap.objs.size + 1, [s1.heap.objs.size + 1, s1.heap.objs.size], _, _, H1, rfl, I2, turn_enumT a (s1.heap.objs.size + 1) s1.heap.objs.size, ⟨⟨.none, by rw [Int.zero_add]; exact he⟩, ⟨_, hit, rfl, rfl⟩, Nat.succ_ne_self _, Nat.ne_of_lt hal, Nat.ne_of_gt (Nat.lt_succ_of_lt hal)⟩, fun b hb => ?_, q⟩
  have hle : s1.heap.objs.size ≤ b := by
    rcases (by simpa using hb : b = s1.heap.objs.size + 1 ∨ b = s1.heap.objs.size) with z | z <;> rw [z] <;> first | exact Nat.le_add_right _ _ | exact Nat.le_refl _
  exact I1.fpOk hle (I1.hok.fresh hle)
theorem walk_enumT {K : PySem.W.Frag} {a : Addr} {xs : List V} : Walk (IteT K a) xs.length (fun H => SqT K H a xs) (YPair (fun i => some (.int (i : Nat))) (fun i => xs[i]?)) := by
  refine ⟨fun i _ hi q => ⟨xs, xs[i], q, by simp [hi]⟩, fun _ q => ⟨xs, q, rfl⟩, fun i H v H' _ q y => ?_⟩
  obtain ⟨T, x, h1, h2, h3, h4⟩ := y
  exact ⟨T, .int (i : Nat), x, h1, h2, h3, rfl, h4 xs q⟩
theorem op_mulS {X : Cx} : OpR X (binaryOp .Mult) (fun x y H Q => ∃ (z : Str) (n : Nat), x = .str z ∧ y = .int n ∧ n ≤ 1000000 ∧ z.length * n ≤ 1000000 ∧ Q (.str (Txt.mul z n)) H) := by
  intro pins s σ H x y v u Q I rx ry h
  obtain ⟨z, n, rfl, rfl, hn, hz, q⟩ := h
  obtain ⟨t, rfl⟩ := rx
  obtain ⟨t', rfl⟩ := ry
  have b0 : (0 : Int) ≤ n := Int.natCast_nonneg n
  have b1 : (n : Int) ≤ 1000000 := by omega
  have c1 : ¬ ((n : Int) < -(2 ^ 63 : Int)) := fun h => absurd (Int.lt_of_le_of_lt b0 h) (by decide)
  have c2 : ¬ ((n : Int) ≥ 2 ^ 63) := fun h => absurd (Int.le_trans h b1) (by decide)
  refine SB.mul ⟨Bool.or_eq_false_iff.mpr ⟨decide_eq_false c1, decide_eq_false c2⟩, fun h1 _ h2 => ?_, fun h1 _ => ?_⟩ fun t2 k => ⟨.str (Txt.mul z n), H, I.kept (t' := k) fun _ _ e => e, ⟨t2, rfl⟩, q⟩
  · have h3 : (1 : Int) ≤ n := by omega
    have hn0 : (0 : Int) < n := by omega
    have h5 : ((z.length * n : Nat) : Int) ≤ 1000000 := by omega
    rw [Int.natCast_mul] at h5
    have h6 : ((2 : Int) ^ 63 - 1) / n * n ≤ 2 ^ 63 - 1 := Int.ediv_mul_le _ (by omega)
    have h7 : ((2 : Int) ^ 63 - 1) < (((2 : Int) ^ 63 - 1) / n + 1) * n := Int.lt_ediv_add_one_mul_self _ hn0
    have h8 : (((2 : Int) ^ 63 - 1) / n + 1) * n ≤ z.length * n := Int.mul_le_mul_of_nonneg_right (by omega) (by omega)
    omega
  · rw [Int.toNat_natCast]
    have e : sizeLine = 16777216 := sizeLine_eq
    exact decide_eq_false (by omega)
theorem mul_cps (z : Str) (n : Nat) : (Txt.mul z n).cps.toList = (List.replicate n z.cps.toList).flatten := by
  have fold : ∀ (n : Nat) (acc : Array Nat), ((List.replicate n z.cps).foldl (· ++ ·) acc).toList = acc.toList ++ (List.replicate n z.cps.toList).flatten := by
    intro n
    induction n with
    | zero => intro acc; simp
    | succ n ih =>
      intro acc
      rw [List.replicate_succ, List.foldl_cons, ih, List.replicate_succ, List.flatten_cons, Array.toList_append, List.append_assoc]
  unfold Txt.mul
  by_cases h : (n : Int) < 1
  · have : n = 0 := by omega
    subst this
    rw [if_pos h]
    rfl
  · rw [if_neg h]
    by_cases h2 : ((n : Int) == 1 || z.length == 0) = true
    · rw [if_pos h2]
      simp only [Bool.or_eq_true, beq_iff_eq] at h2
      rcases h2 with h2 | h2
      · have : n = 1 := by omega
        subst this
        simp
      · have : z.cps.toList = [] := List.length_eq_zero_iff.mp (by rw [Array.length_toList]; exact h2)
        rw [this]
        simp
    · rw [if_neg h2, Int.toNat_natCast]
      have := fold n #[]
      simpa using this
end SWL
set_option Elab.async false
set_option linter.all false
set_option maxRecDepth 100000
set_option maxHeartbeats 4000000
namespace SWL
open PySem PySem.Spec PyProof.Rows L2 LamX
/-! a list display over things of which more is known than their values -/
theorem compT {α : Type} {J : It} {G : Hp → Prop} {I : List α} {gv : α → V} (w : Walk J I.length G (YAt (I.map gv))) (p : α → Bool) (f : α → V) {own : List Nat} {g : TG} {tt : TT} {te : TE} {σ : L2.St} (τ : α → L2.St) {H1 : Hp} {D : Addr} {Qd : Hp → Prop} (nD : H1 D = none)
    (hG : ∀ H, Grows H1 H → G H) (hz : I.length ≤ sizeLine)
    (hgt : ∀ q H Q, q ∈ I → Grows H1 H → Q (τ q) H → g (gv q) (wipe σ own) H Q) (hw : ∀ q, wipe (τ q) own = wipe σ own)
    (htt : ∀ q H k, q ∈ I → Grows H1 H → (∀ H', Grows H H' → k (p q) H') → tt (τ q) H k)
    (hte : ∀ q H Q, q ∈ I → p q = true → Grows H1 H → (∀ H', Grows H H' → Q (f q) H') → te (τ q) H Q)
    (hd : ∀ H, Grows H1 H → H D = some (.lst ((I.filter p).map f)) → Qd H) :
    ∃ W : Nat → Nat → Hp → Prop, (∃ m, W 0 m (upd H1 D (.lst []))) ∧ ∀ n m H, W n m H →
      (J.stop n H ∧ Qd H) ∨ (J.go n H ∧ ∃ Nx : Hp → Prop, (∀ H', Nx H' → ∃ m', m' < m ∧ W (n + 1) m' H') ∧ ∀ x H', J.yld n H x H' → g x (wipe σ own) H' fun σ2 H2 => wipe σ2 own = wipe σ own ∧ tt σ2 H2 fun b H3 =>
        if b = true then te σ2 H3 fun y H4 => ∃ acc, H4 D = some (.lst acc) ∧ acc.length < sizeLine ∧ Nx (upd H4 D (.lst (acc ++ [y]))) else Nx H3) := by
  have gU : ∀ {H : Hp} {o : HO}, Grows H1 H → Grows H1 (upd H D o) := fun g b u e => by
    rw [upd_ne (ne_of_none e nD)]
    exact g b u e
  refine lc_it w (fun n H => Grows H1 H ∧ H D = some (.lst (((I.take n).filter p).map f))) ⟨Grows.new nD, by rw [upd_same]; rfl⟩ (fun n H _ h => hG H h.1) (fun n x H H' hn ⟨g1, hD⟩ ⟨e, hx⟩ => ?_) fun H ⟨g1, hD⟩ => hd H g1 (by rw [List.take_length] at hD; exact hD)
  subst e
  rw [List.getElem?_map] at hx
  obtain ⟨q, hq, rfl⟩ : ∃ q, I[n]? = some q ∧ x = gv q := by
    cases e : I[n]? with
    | none => rw [e] at hx; cases hx
    | some q => rw [e] at hx; exact ⟨q, rfl, (Option.some.inj hx).symm⟩
  have hm : q ∈ I := List.mem_of_getElem? hq
  refine hgt q H' _ hm g1 ⟨hw q, ?_⟩
  refine htt q H' _ hm g1 fun H2 g2 => ?_
  have et : ((I.take (n + 1)).filter p).map f = ((I.take n).filter p).map f ++ (if p q = true then [f q] else []) := by
    rw [take_snoc hq, List.filter_append, List.map_append]
    by_cases hp : p q = true <;> simp [hp]
  by_cases hp : p q = true
  · rw [if_pos hp]
    refine hte q H2 _ hm hp (g1.trans g2) fun H3 g3 => ?_
    refine ⟨_, g3 _ _ (g2 _ _ hD), ?_, gU ((g1.trans g2).trans g3), ?_⟩
    · rw [List.length_map]
      have hs : ((I.take (n + 1)).filter p).length ≤ (I.filter p).length := ((List.take_sublist (n + 1) I).filter p).length_le
      rw [take_snoc hq, List.filter_append, List.length_append] at hs
      have h1 : ([q].filter p).length = 1 := by simp [hp]
      have h2 := List.length_filter_le p I
      omega
    · rw [upd_same, et, if_pos hp]
  · rw [if_neg hp]
    refine ⟨g1.trans g2, ?_⟩
    rw [et, if_neg hp, List.append_nil]
    exact g2 _ _ hD
theorem comp1 {α : Type} {J : It} {G : Hp → Prop} {I : List α} {gv : α → V} (w : Walk J I.length G (YAt (I.map gv))) (p : α → Bool) (f : α → V) {i : Nat} {tt : TT} {te : TE} {σ : L2.St} {H1 : Hp} {D : Addr} {Qd : Hp → Prop} (nD : H1 D = none)
    (hG : ∀ H, Grows H1 H → G H) (hz : I.length ≤ sizeLine)
    (htt : ∀ q H k, q ∈ I → Grows H1 H → (∀ H', Grows H H' → k (p q) H') → tt ((σ.set i none).set i (some (gv q))) H k)
    (hte : ∀ q H Q, q ∈ I → p q = true → Grows H1 H → (∀ H', Grows H H' → Q (f q) H') → te ((σ.set i none).set i (some (gv q))) H Q)
    (hd : ∀ H, Grows H1 H → H D = some (.lst ((I.filter p).map f)) → Qd H) :
    ∃ W : Nat → Nat → Hp → Prop, (∃ m, W 0 m (upd H1 D (.lst []))) ∧ ∀ n m H, W n m H →
      (J.stop n H ∧ Qd H) ∨ (J.go n H ∧ ∃ Nx : Hp → Prop, (∀ H', Nx H' → ∃ m', m' < m ∧ W (n + 1) m' H') ∧ ∀ x H', J.yld n H x H' → gName i x (wipe σ [i]) H' fun σ2 H2 => wipe σ2 [i] = wipe σ [i] ∧ tt σ2 H2 fun b H3 =>
        if b = true then te σ2 H3 fun y H4 => ∃ acc, H4 D = some (.lst acc) ∧ acc.length < sizeLine ∧ Nx (upd H4 D (.lst (acc ++ [y]))) else Nx H3) :=
  compT w p f (own := [i]) (g := gName i) (fun q => (σ.set i none).set i (some (gv q))) nD hG hz (fun q H Q _ _ h => h) (fun q => by show (((σ.set i none).set i (some (gv q))).set i none) = σ.set i none; simp) htt hte hd
end SWL
set_option Elab.async false
set_option linter.all false
set_option maxRecDepth 100000
set_option maxHeartbeats 4000000
namespace SWL
open PySem PySem.Spec PyProof.Rows L2
/-! repr of any plain data -/
def askReprD (K : PySem.W.Frag) : List V → Hp → VK → Prop := fun xs H Q =>
  ∃ (x : V) (d : PyData), xs = [x] ∧ Dp K H x d ∧ d.showable = true ∧ d.hasDict = false ∧ d.depth ≤ 50 ∧ d.shown.length ≤ sizeLine ∧ Q (.str d.shown) H
section
variable {X : Cx}
theorem cr_reprD (gd : X.A.guards = some []) (hu : X.A.units + 64 < cLine) : CallR X (.builtin "repr") (askReprD X.K) := by
  intro pins s σ H xs us Q I rel q
  obtain ⟨x, d, rfl, hd, hs, hn, hdep, hlen, q⟩ := q
  have tk : ∀ {t : Tok}, Inv X pins σ H { s with toks := t } := fun {t} => I.kept (t' := t) (h' := s.heap) fun _ _ e => e
  have byRef : ∀ a, x = .ref a → _ := fun a (e : x = .ref a) => by
    subst e
    exact cr_repr gd hu pins s σ H _ us Q I rel ⟨a, d, rfl, hd, hs, hn, hdep, hlen, q⟩
  cases hd with
  | lst h1 h2 => exact byRef _ rfl
  | tup h1 h2 => exact byRef _ rfl
  | non =>
    obtain ⟨u, rfl, ru⟩ := vals1 rel
    cases ru
    exact PySem.P.repr_of_none ⟨.str (PyData.shown _), H, tk, ⟨_, rfl⟩, q⟩
  | bl b =>
    obtain ⟨u, rfl, ru⟩ := vals1 rel
    cases ru
    exact PySem.P.repr_of_bool ⟨.str (PyData.shown _), H, tk, ⟨_, rfl⟩, q⟩
  | int i =>
    obtain ⟨u, rfl, t, rfl⟩ := vals1 rel
    exact PySem.P.repr_of_int (of_decide_eq_true hs) ⟨.str (PyData.shown _), H, tk, ⟨_, rfl⟩, q⟩
  | str z =>
    obtain ⟨u, rfl, t, rfl⟩ := vals1 rel
    exact PySem.P.repr_of_str ⟨.str (PyData.shown _), H, tk, ⟨_, rfl⟩, q⟩ hlen
end
end SWL
set_option Elab.async false
set_option linter.all false
set_option maxRecDepth 100000
set_option maxHeartbeats 4000000
namespace SWL
open PySem PySem.Spec PyProof.Rows L2 LamX
/-! texts: a letter's first and last place, the text turned about, what is ahead and behind -/
theorem first_at {z : Str} {c : Nat} (hc : c ∈ z.cps.toList) : ∃ i rest, PySem.Builtin.Str.occurrences z ⟨#[c]⟩ 0 z.length 1 = i :: rest ∧ z.cps.toList[i]? = some c ∧ ∀ k, k < i → z.cps.toList[k]? ≠ some c := by
  rcases PySem.StrLaws.occ_head z ⟨#[c]⟩ 1 (Nat.le_refl _) with ⟨_, h⟩ | ⟨i, r, e, h1, h2⟩
  · obtain ⟨i, hi⟩ := List.getElem?_of_mem hc
    exact absurd ((PySem.StrLaws.subAt_one z c i).mpr hi) (h i)
  · exact ⟨i, r, e, (PySem.StrLaws.subAt_one z c i).mp h1, fun k hk z' => h2 k hk ((PySem.StrLaws.subAt_one z c k).mpr z')⟩
theorem last_at {z : Str} {c : Nat} (hc : c ∈ z.cps.toList) : ∃ i, PySem.Builtin.Str.lastOccurrence z ⟨#[c]⟩ 0 z.length = some i ∧ z.cps.toList[i]? = some c ∧ ∀ k, i < k → z.cps.toList[k]? ≠ some c := by
  rcases PySem.StrLaws.last_spec z ⟨#[c]⟩ with ⟨_, h⟩ | ⟨i, e, h1, h2⟩
  · obtain ⟨i, hi⟩ := List.getElem?_of_mem hc
    exact absurd ((PySem.StrLaws.subAt_one z c i).mpr hi) (h i)
  · exact ⟨i, e, (PySem.StrLaws.subAt_one z c i).mp h1, fun k hk z' => h2 k hk ((PySem.StrLaws.subAt_one z c k).mpr z')⟩
section
variable {X : Cx}
theorem mt_index : MtR X "str.index" (fun x xs H Q => ∃ (z : Str) (c : Nat), x = .str z ∧ xs = [.str ⟨#[c]⟩] ∧ c ∈ z.cps.toList ∧ ∀ i : Nat, z.cps.toList[i]? = some c → (∀ k, k < i → z.cps.toList[k]? ≠ some c) → Q (.int (i : Nat)) H) := by
  intro pins s σ H x xs v us Q I rx rs h
  obtain ⟨z, c, rfl, rfl, hc, q⟩ := h
  obtain ⟨t, rfl⟩ := rx
  cases rs with
  | cons r1 rs =>
    cases rs
    obtain ⟨u, rfl⟩ := r1
    obtain ⟨i, rest, e, h1, h2⟩ := first_at hc
    exact call_gives F.slot_str_index (typeIs_str _ _ _) F.entry_str_index (F.args_str_index_2 _ _) (gives_str_index z _ t u i rest e) ⟨.int i, H, I.tok _, ⟨_, rfl⟩, q i h1 h2⟩
theorem mt_rindex : MtR X "str.rindex" (fun x xs H Q => ∃ (z : Str) (c : Nat), x = .str z ∧ xs = [.str ⟨#[c]⟩] ∧ c ∈ z.cps.toList ∧ ∀ i : Nat, z.cps.toList[i]? = some c → (∀ k, i < k → z.cps.toList[k]? ≠ some c) → Q (.int (i : Nat)) H) := by
  intro pins s σ H x xs v us Q I rx rs h
  obtain ⟨z, c, rfl, rfl, hc, q⟩ := h
  obtain ⟨t, rfl⟩ := rx
  cases rs with
  | cons r1 rs =>
    cases rs
    obtain ⟨u, rfl⟩ := r1
    obtain ⟨i, e, h1, h2⟩ := last_at hc
    exact call_gives F.slot_str_rindex (typeIs_str _ _ _) F.entry_str_rindex (F.args_str_rindex_2 _ _) (gives_str_rindex z _ t u i e) ⟨.int i, H, I.tok _, ⟨_, rfl⟩, q i h1 h2⟩
/-- the text turned about -/
def revS (z : Str) : Str := ⟨z.cps.toList.reverse.toArray⟩
theorem rev_slice (z : Str) (u : Tok) : PySem.Txt.sliceBy z none none (-1, u) = revS z := by
  have e := step_rev_list z u
  have e2 : ((List.range z.length).map fun k => z.cps.getD (z.length - 1 - k) 0) = z.cps.toList.reverse := by
    have hl : z.cps.toList.length = z.length := Array.length_toList ..
    refine List.ext_getElem? fun i => ?_
    rw [List.getElem?_map]
    by_cases h : i < z.length
    · rw [List.getElem?_range h, List.getElem?_reverse (by omega), hl]
      have h2 : z.length - 1 - i < z.cps.toList.length := by omega
      rw [List.getElem?_eq_getElem h2]
      have h3 : z.length - 1 - i < z.cps.size := h2
      simp [Array.getD, h3]
    · have h1 : (List.range z.length)[i]? = none := List.getElem?_eq_none_iff.mpr (by rw [List.length_range]; omega)
      have h2 : z.cps.toList.reverse[i]? = none := List.getElem?_eq_none_iff.mpr (by rw [List.length_reverse]; omega)
      rw [h1, h2]
      rfl
  rw [e2] at e
  generalize PySem.Txt.sliceBy z none none (-1, u) = y at e
  unfold revS
  rw [← e]
/-- text[::-1] -/
def tRevS (te : TE) : TE := fun σ H Q => te σ H fun x H1 => ∃ z, x = .str z ∧ z.length ≤ sizeLine ∧ Q (.str (revS z)) H1
theorem pe_revS {e : Expr} {te : TE} {k : Nat} {p1 p2 p3 pos : Pos} (he : PE X e te) : PE X (.Subscript e (.Slice none none (some (.UnaryOp .USub (.Constant (.int 1) k p1) p2)) p3) pos) (tRevS te) := by
  refine ⟨fun pins s σ H Q I h => ?_⟩
  refine Subscript_ (thn (he.run pins s σ H _ I h) fun v s1 ⟨x, H1, I1, r1, z, ex, hz, q⟩ => ?_)
  subst ex
  obtain ⟨t, rfl⟩ := r1
  have hst : PO X (some (.UnaryOp .USub (.Constant (.int 1) k p1) p2)) (tPart (tUn (rU fun i => .int (-i)) (tC (.int 1)))) := po_some (pe_un un_neg pe_int)
  refine wpAny_Slice (thn (po_none.run pins s1 σ H1 (fun o H2 => o = none ∧ H2 = H1) I1 ⟨rfl, rfl⟩) fun vl s2 ⟨l, H2, I2, pl, el, e2⟩ => ?_)
  subst el e2
  refine thn (po_none.run pins s2 σ H2 (fun o H3 => o = none ∧ H3 = H2) I2 ⟨rfl, rfl⟩) fun vu s3 ⟨u, H3, I3, pu, eu, e3⟩ => ?_
  subst eu e3
  refine thn (hst.run pins s3 σ H3 (fun o H4 => o = some (-1) ∧ H4 = H3) I3 ⟨1, rfl, -1, rfl, rfl, rfl⟩) fun vs s4 ⟨o, H4, I4, ps, eo, e4⟩ => ?_
  subst eo e4
  obtain ⟨l, rfl, hl⟩ := IsPart.raw pl
  obtain ⟨u, rfl, hu⟩ := IsPart.raw pu
  obtain ⟨y, rfl, hy⟩ := IsPart.raw ps
  have I5 : Inv X pins σ H4 { s4 with heap := s4.heap.push { cls := .type "slice", data := .fields #[partValue l, partValue u, partValue y] } } := I4.kept (t' := s4.toks) fun b ob q => Heap.get?_push_of_some _ q
  obtain rfl : l = none := by
    cases l with
    | none => rfl
    | some p => cases hl
  obtain rfl : u = none := by
    cases u with
    | none => rfl
    | some p => cases hu
  obtain ⟨ty, rfl⟩ : ∃ ty, y = some (-1, ty) := by
    cases y with
    | none => cases hy
    | some p =>
      obtain ⟨a, b⟩ := p
      cases hy
      exact ⟨b, rfl⟩
  show wpAny (model X.prog X.w) X.A (subscriptTail e (.Slice none none (some (.UnaryOp .USub (.Constant (.int 1) k p1) p2)) p3) (.str z t) (.ref s4.heap.objs.size)) (EP X pins σ Q) X.xe { s4 with heap := s4.heap.push { cls := .type "slice", data := .fields #[.none, .none, .int (-1) ty] } }
  refine tail_any (ops := [.ref s4.heap.objs.size, .str z t]) (typeIs_str _ _ _) F.slot_str_getitem.lookup ?_ (by with_unfolding_all rfl)
  refine wpAny_getItem_str_slice (l := none) (u := none) (st := some (-1, ty)) ⟨_, Heap.get?_push_size _ rfl, rfl, rfl⟩ rfl ?_
  refine post_val_or_str ⟨Nat.le_trans (PySem.Txt.sliceBy_le z none none (-1, ty) (show (-1 : Int) ≠ 0 by decide)) hz, fun t' c => ?_⟩
  refine ⟨.str (revS z), H4, I5.tok c, ⟨t', ?_⟩, q⟩
  rw [← rev_slice z ty]
  rfl
end
end SWL
set_option Elab.async false
set_option linter.all false
set_option maxRecDepth 100000
set_option maxHeartbeats 4000000
namespace SWL
open PySem PySem.Spec PyProof.Rows L2 LamX
/-! set(v): what the filling of the new set does is all that is asked -/
/-- the empty set, as it is made -/
def set0 (w : World) : Obj := { cls := .type "set", dict := none, data := .set #[] 0 (.fresh 0 0 (!w.params.followText "set-order")) }
section
variable {P : Program} {w : World} {A : Around} {E : Value → Shared → Prop} {s : Shared}
theorem set_by {v : Value} {Q : Value → Shared → Prop}
    (fill : ∀ (A' : Around) (E' : Value → Shared → Prop), A'.handled = A.handled → A'.units ≤ A.units + 3 → wpAny (model P w) A' (Builtin.Frozenset.updateFrom "set.__init__" s.heap.objs.size v) (fun _ s₂ => Q (.ref s.heap.objs.size) s₂) E' { s with heap := s.heap.push (set0 w) }) :
    wpAny (model P w) A (call (.type "set") [v]) Q E s := by
  obtain ⟨c, tl, hmro⟩ := F.called_set.mro
  have a1 := F.called_set.made
  have a2 := F.called_set.sub
  have a3 := F.called_set.notType
  have a4 := F.called_set.canCreate
  have a5 := F.typeCall_set_1 v
  refine wpAny_call (codeAny_of_tree ?_)
  refine wpAny_pure ⟨Code.quiet_builtin _ (by decide +kernel), codeAny_builtin F.entry_type_call ?_⟩
  rw [Around.under_plain (weight_type_call_type "set" [v] []) rfl]
  repeat (any_goals (first | assumption | wp_step))
  refine codeAny_mono (code_set_led1 v (E := E) (Q₁ := fun obj s₁ => obj = .ref s.heap.objs.size ∧ s₁ = { s with heap := s.heap.push (set0 w) }) ⟨rfl, rfl⟩) fun r s₁ hr => ?_
  match r, hr with
  | .error e, hr => exact hr
  | .ok (.ret obj), hr =>
    obtain ⟨rfl, rfl⟩ := hr
    have hT : Shared.TypeIs { s with heap := s.heap.push (set0 w) } (.ref s.heap.objs.size) "set" := ⟨_, Heap.get?_push_size _ rfl, rfl⟩
    have hS : (s.heap.push (set0 w)).get? s.heap.objs.size = some (set0 w) := Heap.get?_push_size _ rfl
    have b1 := F.called_set.init.lookup
    have b2 := F.called_set.init.bind (.ref s.heap.objs.size)
    repeat (any_goals (first | assumption | wp_step))
    refine codeAny_mono (codeAny_call_builtin (R := wants (fun r s₂ => r = .none ∧ Q (.ref s.heap.objs.size) s₂) E) F.called_set.init.plain F.entry_set_init (check_set_init_1 hT ?_)) fun r₂ s₂ hr₂ => ?_
    · unfold Builtin.«set.__init__» noKeywords
      generalize Builtin.Frozenset.updateFrom = UF at fill ⊢
      wp_walk
      exact wpAny_mono (fill A.in1.in1 _ rfl (by show A.units + 1 + 1 ≤ _; omega)) (fun _ _ z => wpAny_pure ⟨rfl, z⟩) fun _ _ z => z
    · match r₂, hr₂ with
      | .error e, hr₂ => exact hr₂
      | .ok (.ret r), hr₂ =>
        obtain ⟨rfl, hq⟩ := hr₂
        repeat (any_goals (first | assumption | wp_step))
      | .ok (.next), hr₂ => exact hr₂.elim
      | .ok (.brk), hr₂ => exact hr₂.elim
      | .ok (.cont), hr₂ => exact hr₂.elim
  | .ok (.next), hr => exact hr.elim
  | .ok (.brk), hr => exact hr.elim
  | .ok (.cont), hr => exact hr.elim
/-- the filling, one thing behind the other: J i says what the set is when i things are put in -/
theorem fill_loop {I : Addr} {fp wr : List Addr} {G : Array GenState → Array GenState → Prop} {n : Nat} {Pv : Nat → Value → Prop} {St : Nat → Shared → Prop} {R : Result → Shared → Prop} {D : Addr} (W : WalksS P w A.in1 I fp wr G n Pv St) (away : D ∉ fp) (J : Nat → Heap → Prop)
    (stay : ∀ i h h', J i h → (∀ b o, b ∉ wr → h.get? b = some o → h'.get? b = some o) → J i h')
    (put : ∀ i v (s0 : Shared) (Q : Bool → Shared → Prop) (E' : Value → Shared → Prop), i < n → Pv i v → J i s0.heap → (∀ c h' tk, s0.toks ≤ tk → Heap.SameBut D s0.heap h' → J (i + 1) h' → Q c { s0 with heap := h', toks := tk }) → wpAny (model P w) A.in1 (setAdd D v) Q E' s0) :
    ∀ (m i : Nat) (s0 : Shared), i + m = n → St i s0 → J i s0.heap → (∀ s', Moved (D :: wr) G s0 s' → J n s'.heap → R (.ok (.ret .none)) s') → codeAny (model P w) A (.builtin "set.update.loop" ⟨[.ref D, .ref I], []⟩) R s0 := by
  have dw : D ∉ wr := fun z => away (W.sub _ z)
  intro m
  induction m with
  | zero =>
    intro i s0 e st j fin
    obtain rfl : i = n := e
    refine codeAny_builtin F.entry_set_update_loop ?_
    rw [Around.under_plainId F.plain_set_update_loop _]
    refine wpAny_bind (m := pyNext (.ref I)) (W.done s0 _ _ st fun s' mv => ?_)
    exact wpAny_pure (fin s' (mv.mono fun b hb => List.mem_cons_of_mem _ hb) (stay _ _ _ j fun b o nb e' => mv.heap b o nb e'))
  | succ m ih =>
    intro i s0 e st j fin
    have lt : i < n := by omega
    refine codeAny_builtin F.entry_set_update_loop ?_
    rw [Around.under_plainId F.plain_set_update_loop _]
    refine wpAny_bind (m := pyNext (.ref I)) (W.item i s0 _ _ lt st fun v s1 pv st1 mv => ?_)
    have j1 := stay _ _ _ j fun b o nb e' => mv.heap b o nb e'
    refine wpAny_bind (m := holding [v] (setAdd D v)) (wpAny_holding (put i v s1 _ _ lt pv j1 fun c h' tk htk sb j2 => ?_))
    refine wpAny_pure ⟨plainId_quiet F.plain_set_update_loop _, ih (i + 1) _ (by omega) (W.frame _ s1 _ _ st1 htk fun b hb o e' => ?_) j2 fun s2 mv2 j3 => ?_⟩
    · exact (sb.2 b fun z => away (z ▸ hb)).trans e'
    · refine fin s2 (Moved.trans W.gtrans ((mv.mono fun b hb => List.mem_cons_of_mem D hb).then_heap htk fun b o nb e' => ?_) mv2) j3
      exact (sb.2 b fun z => nb (z ▸ List.mem_cons_self)).trans e'
/-! sets of texts -/
def txOf (e : Int × Value) : Str := match e.2 with
  | .str z _ => z
  | _ => ""
def IsTx (P : Program) (w : World) (e : Int × Value) : Prop := ∃ z tk, e = ((strKind P w).hash z, Value.str z tk)
structure TxRaw (P : Program) (w : World) (L : List Str) (es : Array (Int × Value)) (t : SetTable) : Prop where
  each : ∀ e ∈ es.toList, IsTx P w e
  perm : (es.toList.map txOf).Perm L
  nd : L.Nodup
  few : L.length < scanBound
  fit : t.fits es.size = true
  ris : Ris t.place.toList
  led : w.params.followText "set-order" = true ∨ t.led = true
def TxSet (P : Program) (w : World) (h : Heap) (a : Addr) (L : List Str) : Prop := ∃ o es ep t, h.get? a = some o ∧ o.ExactSet ∧ o.data = .set es ep t ∧ TxRaw P w L es t
theorem TxSet.at {h h' : Heap} {a : Addr} {L : List Str} (x : TxSet P w h a L) (k : ∀ o, h.get? a = some o → h'.get? a = some o) : TxSet P w h' a L := by
  obtain ⟨o, es, ep, t, ho, r⟩ := x
  exact ⟨o, es, ep, t, k o ho, r⟩
theorem TxSet.new {h : Heap} {a : Addr} (ho : h.get? a = some (set0 w)) : TxSet P w h a [] := by
  refine ⟨_, #[], 0, _, ho, ⟨rfl, rfl, rfl⟩, rfl, ⟨fun e he => by simp at he, List.Perm.refl _, List.nodup_nil, by decide, rfl, List.Pairwise.nil, ?_⟩⟩
  cases c : w.params.followText "set-order" with
  | true => exact .inl rfl
  | false => exact .inr rfl
theorem tx_elems {es : List (Int × Value)} (h : ∀ e ∈ es, IsTx P w e) : ElemsOf (strKind P w) es := fun e he => by
  obtain ⟨z, tk, rfl⟩ := h e he
  exact ⟨⟨z, strKind_is P w z tk, rfl⟩, rfl⟩
theorem tx_is {e : Int × Value} (h : IsTx P w e) (z : Str) : (strKind P w).is z e.2 = true ↔ txOf e = z := by
  obtain ⟨y, tk, rfl⟩ := h
  constructor
  · intro q
    obtain ⟨u, e⟩ := Value.isStrOf_shape (show Value.isStrOf z (.str y tk) = true from q)
    cases e
    rfl
  · intro q
    cases q
    exact strKind_is P w _ tk
theorem tx_perm {L : List Str} {es es' : Array (Int × Value)} {t t' : SetTable} (r : TxRaw P w L es t) (p : es'.toList.Perm es.toList) (f : t'.fits es'.size = true) (u : Ris t'.place.toList) (l : t'.led = t.led) : TxRaw P w L es' t' :=
  ⟨fun e he => r.each e (p.mem_iff.mp he), (p.map txOf).trans r.perm, r.nd, r.few, f, u, r.led.imp id fun z => l.trans z⟩
theorem tx_size {L : List Str} {es : Array (Int × Value)} {t : SetTable} (r : TxRaw P w L es t) : es.size = L.length := by
  have := r.perm.length_eq
  rw [List.length_map, Array.length_toList] at this
  exact this
/-- what is stored when a text is new -/
theorem tx_tail {gw : Bool → Sem Unit} (quiet : ∀ (b : Bool) (s₁ : Shared) (Q' : Unit → Shared → Prop), Q' () s₁ → wpAny (model P w) A (gw b) Q' E s₁) {a : Addr} {o : Obj} {es es1 : Array (Int × Value)} {ep : Nat} {t t2 : SetTable} {L : List Str} {b : Bool} {Q : Option Bool → Shared → Prop} (ho : s.heap.get? a = some o) (hx : o.ExactSet) (hd : o.data = .set es ep t) (r : TxRaw P w L es1 t2)
    (fin : ∀ h', Heap.SameBut a s.heap h' → TxSet P w h' a L → Q (some true) { s with heap := h' }) :
    wpAny (model P w) A (storeSet a es1 t2 >>= fun _ => if (!b && t2.tooFull) = true then gw (relayAll t2 es1 (SetTable.grown es1.size)).2.2 >>= fun _ => storeSet a (relayAll t2 es1 (SetTable.grown es1.size)).1 (relayAll t2 es1 (SetTable.grown es1.size)).2.1 >>= fun _ => pure (some true) else pure (some true)) Q E s := by
  have few1 : es1.size < scanBound := by rw [tx_size r]; exact r.few
  refine wpAny_bind (wpAny_storeSet_of ho hd ?_ (fits_of_scanBound few1))
  have o1 := store_at (es' := es1) (t' := t2) ho hd
  have same1 := Heap.SameBut.update s.heap a (Obj.putSet es1 t2)
  by_cases c : (!b && t2.tooFull) = true
  · refine wp_if_pos c ?_
    have q := tx_perm r (relayAll_perm t2 es1 (SetTable.grown es1.size)) (relayAll_fits t2 es1 (SetTable.grown es1.size)) (relayAll_ris t2 es1 (SetTable.grown es1.size)) (relayAll_led t2 es1 (SetTable.grown es1.size))
    generalize relayAll t2 es1 (SetTable.grown es1.size) = Z at q ⊢
    obtain ⟨es2, t3, gave⟩ := Z
    have few2 : es2.size < scanBound := by rw [tx_size q]; exact q.few
    dsimp only
    refine wpAny_bind (quiet _ _ _ ?_)
    refine wpAny_bind (wpAny_storeSet_of o1 rfl ?_ (fits_of_scanBound few2))
    have o2 := store_at (es' := es2) (t' := t3) o1 rfl
    exact wpAny_pure (fin _ (same1.trans (Heap.SameBut.update _ a _)) ⟨_, es2, _, t3, o2, hx, rfl, q⟩)
  · refine wp_if_neg c ?_
    exact wpAny_pure (fin _ same1 ⟨_, es1, _, t2, o1, hx, rfl, r⟩)
theorem tx_add {a : Addr} {L : List Str} {z : Str} {tk : Tok} {Q : Bool → Shared → Prop} (x : TxSet P w s.heap a L) (room : L.length + 1 < scanBound) (old : z ∈ L → Q false s)
    (new : z ∉ L → ∀ h', Heap.SameBut a s.heap h' → TxSet P w h' a (z :: L) → Q true { s with heap := h' }) : wpAny (model P w) A (setAddHashed a (.str z tk) ((strKind P w).hash z)) Q E s := by
  obtain ⟨o, es, ep, t, ho, hx, hd, r⟩ := x
  have few1 : es.size < scanBound := by rw [tx_size r]; exact r.few
  have el := tx_elems r.each
  have isz := strKind_is P w z tk
  have mem : z ∈ L ↔ ∃ e ∈ es.toList, (strKind P w).is z e.2 = true := by
    rw [← r.perm.mem_iff, List.mem_map]
    exact ⟨fun ⟨e, h1, h2⟩ => ⟨e, h1, (tx_is (r.each e h1) z).mpr h2⟩, fun ⟨e, h1, h2⟩ => ⟨e, h1, (tx_is (r.each e h1) z).mp h2⟩⟩
  unfold setAddHashed setAddHashedIn
  refine wpAny_holding (wpAny_bind (wpAny_setState_of ho hd r.fit ?_))
  dsimp only
  rw [byScan_of (x := .str z tk) rfl few1 el]
  simp only [↓reduceIte]
  unfold setAddByScan
  refine wpAny_bind ?_
  refine wpAny_bind (wpAny_rule (wpAny_bind (wpAny_setScan_of isz ho hd r.fit el ?_)))
  cases c : List.findIdx? (fun e => (strKind P w).is z e.2) es.toList with
  | some j =>
    obtain ⟨j1, j2, _⟩ := List.findIdx?_eq_some_iff_getElem.mp c
    exact wpAny_pure (wpAny_pure (old (mem.mpr ⟨_, List.getElem_mem j1, j2⟩)))
  | none =>
    have nz : z ∉ L := fun q => by
      obtain ⟨e, h1, h2⟩ := mem.mp q
      have := List.findIdx?_eq_none_iff.mp c e h1
      rw [h2] at this
      cases this
    have p := layNew_perm t es ((strKind P w).hash z) (.str z tk)
    have f := layNew_fits t es ((strKind P w).hash z) (.str z tk)
    have u := layNew_ris t es ((strKind P w).hash z) (.str z tk) r.ris
    have l := layNew_led t es ((strKind P w).hash z) (.str z tk)
    generalize layNew t es ((strKind P w).hash z) (.str z tk) = Z at p f u l ⊢
    obtain ⟨es1, t1, dm, gave⟩ := Z
    dsimp only at p f u l ⊢
    rw [Array.toList_push] at p
    have p2 : es1.toList.Perm (((strKind P w).hash z, Value.str z tk) :: es.toList) := p.trans (List.perm_append_singleton _ _)
    have raw : TxRaw P w (z :: L) es1 t1 := ⟨fun e he => by
      rcases List.mem_cons.mp (p2.mem_iff.mp he) with h | h
      · exact ⟨z, tk, h⟩
      · exact r.each e h, (p2.map txOf).trans (r.perm.cons z), List.nodup_cons.mpr ⟨nz, r.nd⟩, room, f, u, r.led.imp id fun z => l.trans z⟩
    have raw2 : TxRaw P w (z :: L) es1 { t1 with plain := false } := ⟨raw.each, raw.perm, raw.nd, raw.few, SetTable.fits_plain_off f, u, raw.led⟩
    have fin : ∀ h', Heap.SameBut a s.heap h' → TxSet P w h' a (z :: L) → Q true { s with heap := h' } := new nz
    refine wpAny_bind ?_
    have hushed : ∀ (b : Bool) (s₁ : Shared) (Q' : Unit → Shared → Prop), Q' () s₁ → wpAny (model P w) A (match b with | true => rule "set.scan.the-table-gave-way" | false => pure ()) Q' E s₁ := fun b s₁ Q' q => by
      cases b
      · exact wpAny_pure q
      · exact wpAny_rule q
    refine hushed gave _ _ ?_
    by_cases pl : t1.plain = true
    · refine wp_if_pos pl (wpAny_bind ?_)
      rw [hashByValue_scannable 8 (x := Value.str z tk) rfl]
      refine wpAny_pure (tx_tail hushed ho hx hd (L := z :: L) ?_ fun h' sb q => wpAny_pure (fin h' sb q))
      split
      · exact raw
      · exact raw2
    · refine wp_if_neg pl (wpAny_bind (wpAny_pure (tx_tail hushed ho hx hd (L := z :: L) ?_ fun h' sb q => wpAny_pure (fin h' sb q))))
      exact raw
end
end SWL
set_option Elab.async false
set_option linter.all false
set_option maxRecDepth 100000
set_option maxHeartbeats 4000000
namespace SWL
open PySem PySem.Spec PyProof.Rows L2 LamX
theorem sub_str_set : isSubtype (.type "str") (.type "set") = pure false := by rw [isSubtype_type]; kernel_rfl
theorem sub_str_frz : isSubtype (.type "str") (.type "frozenset") = pure false := by rw [isSubtype_type]; kernel_rfl
section
variable {P : Program} {w : World} {A : Around} {E : Value → Shared → Prop} {s : Shared}
/-- the signs of a text, each once -/
def SignsOf (cs : List Nat) (L : List Str) : Prop := ∀ x, x ∈ L ↔ ∃ c ∈ cs, x = (⟨#[c]⟩ : Str)
theorem tx_fill {z : Str} {t : Tok} {Q : Value → Shared → Prop} (hh : A.handled = none) (few : z.length + 1 < scanBound)
    (q : ∀ (h' : Heap) (tk : Nat) (L : List Str), TxSet P w h' s.heap.objs.size L → SignsOf z.cps.toList L → (∀ b o, s.heap.get? b = some o → h'.get? b = some o) → Q (.ref s.heap.objs.size) { s with heap := h', toks := tk }) :
    wpAny (model P w) A (call (.type "set") [.str z t]) Q E s := by
  refine set_by fun A' E' hA _ => ?_
  have hh' : A'.handled = none := hA.trans hh
  have hS : (s.heap.push (set0 w)).get? s.heap.objs.size = some (set0 w) := Heap.get?_push_size _ rfl
  have n1 := sub_str_set
  have n2 := sub_str_frz
  unfold Builtin.Frozenset.updateFrom
  generalize hPI : pyIter = PI
  wp_walk
  subst hPI
  refine wpAny_pyIter_str fun o St W st0 => ?_
  refine wpAny_bind (wpAny_runValue ?_)
  have sz1 : (s.heap.push (set0 w)).objs.size = s.heap.objs.size + 1 := size_push' _ _
  have away : s.heap.objs.size ∉ [(s.heap.push (set0 w)).objs.size] := fun h => by
    have := List.mem_singleton.mp h
    omega
  have up : ∀ b u, s.heap.get? b = some u → ((s.heap.push (set0 w)).push o).get? b = some u := fun b u e => Heap.get?_push_of_some _ (Heap.get?_push_of_some _ e)
  have lt : ∀ b u, s.heap.get? b = some u → b ≠ s.heap.objs.size ∧ b ≠ (s.heap.push (set0 w)).objs.size := fun b u e => by
    have h := Heap.lt_size e
    exact ⟨Nat.ne_of_lt h, Nat.ne_of_lt (by rw [sz1]; exact Nat.lt_succ_of_lt h)⟩
  refine fill_loop (P := P) (w := w) (A := A') (n := z.cps.size) (W A'.in1 hh').toS away (fun i h => ∃ L, TxSet P w h s.heap.objs.size L ∧ SignsOf (z.cps.toList.take i) L ∧ L.length ≤ i)
    (fun i h h' ⟨L, x, g, l⟩ k => ⟨L, x.at fun u e => k _ u away e, g, l⟩) ?_ z.cps.size 0 _ (by omega) st0 ⟨[], .new (Heap.get?_push_of_some _ hS), fun x => by simp, Nat.le_refl _⟩ ?_
  · rintro i v s0 Q' E2 hi ⟨c, u, hc, rfl⟩ ⟨L, x, g, l⟩ q'
    have hc' : z.cps.toList[i]? = some c := by rw [Array.getElem?_toList]; exact hc
    have ht : z.cps.toList.take (i + 1) = z.cps.toList.take i ++ [c] := take_snoc hc'
    have zl : z.length = z.cps.size := rfl
    unfold setAdd
    refine wpAny_holding (wpAny_bind ((PySem.strKind P w).pyHash (strKind_is P w ⟨#[c]⟩ u) ?_))
    refine tx_add (s := { s0 with toks := s0.toks + 1 }) x (by omega) (fun m => ?_) fun nm h' sb y => ?_
    · refine q' false s0.heap (s0.toks + 1) (Nat.le_succ _) (Heap.SameBut.refl _ _) ⟨L, x, fun y => ?_, by omega⟩
      rw [g y, ht]
      constructor
      · rintro ⟨d, hd, e⟩
        exact ⟨d, List.mem_append_left _ hd, e⟩
      · rintro ⟨d, hd, e⟩
        rcases List.mem_append.mp hd with h | h
        · exact ⟨d, h, e⟩
        · rw [List.mem_singleton.mp h] at e
          rw [e]
          exact (g _).mp m
    · refine q' true h' (s0.toks + 1) (Nat.le_succ _) sb ⟨_, y, fun y => ?_, by rw [List.length_cons]; omega⟩
      rw [List.mem_cons, g y, ht]
      constructor
      · rintro (e | ⟨d, hd, e⟩)
        · exact ⟨c, by simp, e⟩
        · exact ⟨d, List.mem_append_left _ hd, e⟩
      · rintro ⟨d, hd, e⟩
        rcases List.mem_append.mp hd with h | h
        · exact .inr ⟨d, h, e⟩
        · rw [List.mem_singleton.mp h] at e
          exact .inl e
  · rintro s' mv ⟨L, x, g, l⟩
    obtain ⟨h', g', d', tk', os'⟩ := s'
    obtain rfl : g' = s.gens := mv.gens
    obtain rfl : d' = s.drawn := mv.drawn
    obtain rfl : os' = s.os := mv.os
    have et : z.cps.toList.take z.cps.size = z.cps.toList := List.take_of_length_le (by rw [Array.length_toList]; exact Nat.le_refl _)
    rw [et] at g
    refine wpAny_pure ?_
    exact q h' tk' L x g fun b u e => mv.heap b u (fun hm => by
      rcases List.mem_cons.mp hm with h | h
      · exact (lt b u e).1 h
      · exact (lt b u e).2 (List.mem_singleton.mp h)) (up b u e)
/-- one-sign texts in order, each once -/
theorem signs_rise : ∀ cs : List Nat, sortedS (cs.map fun c => (⟨#[c]⟩ : Str)) = true → (cs.map fun c => (⟨#[c]⟩ : Str)).Nodup → cs.Pairwise (· < ·) := by
  have one : ∀ c d : Nat, ltCps [c] [d] = decide (c < d) := fun c d => by
    unfold ltCps
    cases h : decide (c < d)
    · show (false || (c == d && ltCps [] [])) = false
      simp [ltCps]
    · rfl
  have gen : ∀ (cs : List Nat) (p : Nat), risingS ⟨#[p]⟩ (cs.map fun c => (⟨#[c]⟩ : Str)) = true → (⟨#[p]⟩ : Str) ∉ (cs.map fun c => (⟨#[c]⟩ : Str)) → (cs.map fun c => (⟨#[c]⟩ : Str)).Nodup → (∀ c ∈ cs, p < c) ∧ cs.Pairwise (· < ·) := by
    intro cs
    induction cs with
    | nil => intro p _ _ _; exact ⟨fun c hc => (by cases hc), .nil⟩
    | cons c cs ih =>
      intro p h np nd
      rw [List.map_cons] at h np nd
      unfold risingS at h
      rw [Bool.and_eq_true] at h
      obtain ⟨h1, h2⟩ := h
      obtain ⟨nd1, nd2⟩ := List.nodup_cons.mp nd
      obtain ⟨a1, a2⟩ := ih c h2 nd1 nd2
      have pc : p < c := by
        have e : (!ltCps [c] [p]) = true := h1
        rw [one] at e
        have ne : p ≠ c := fun z => np (by rw [z]; exact List.mem_cons_self)
        simp at e
        omega
      refine ⟨fun d hd => ?_, List.pairwise_cons.mpr ⟨a1, a2⟩⟩
      rcases List.mem_cons.mp hd with rfl | hd
      · exact pc
      · exact Nat.lt_trans pc (a1 d hd)
  intro cs h nd
  cases cs with
  | nil => exact .nil
  | cons c cs =>
    obtain ⟨nd1, nd2⟩ := List.nodup_cons.mp nd
    obtain ⟨a1, a2⟩ := gen cs c h nd1 nd2
    exact List.pairwise_cons.mpr ⟨a1, a2⟩
end
theorem len_within {α : Type} [DecidableEq α] : ∀ (l D : List α), l.Nodup → (∀ x ∈ l, x ∈ D) → l.length ≤ D.length
  | [], _, _, _ => Nat.zero_le _
  | x :: l, D, nd, h => by
    obtain ⟨h1, h2⟩ := List.nodup_cons.mp nd
    have hx := h x List.mem_cons_self
    have := len_within l (D.erase x) h2 fun y hy => (List.mem_erase_of_ne fun e : y = x => h1 (e ▸ hy)).mpr (h y (List.mem_cons_of_mem _ hy))
    rw [List.length_erase_of_mem hx] at this
    have := List.length_pos_of_mem hx
    rw [List.length_cons]
    omega
def TxO (P : Program) (w : World) (a : Addr) (L : List Str) : HO := .ext fun h => TxSet P w h a L
theorem txO_new {P : Program} {w : World} {H : Hp} {h : Heap} {a : Addr} {L : List Str} (x : TxSet P w h a L) : ObjOk P w H h a (TxO P w a L) :=
  ⟨x, (by obtain ⟨o, _, _, _, ho, _⟩ := x; exact ⟨o, ho⟩), fun _ _ y k => TxSet.at y k⟩
section
variable {X : Cx}
/-- set(text) -/
def rSetTx (P : Program) (w : World) : List V → Hp → VK → Prop := fun xs H Q => ∃ z, xs = [.str z] ∧ z.length + 1 < scanBound ∧ ∀ p L, H p = none → L.Nodup → SignsOf z.cps.toList L → Q (.ref p) (upd H p (TxO P w p L))
theorem cr_setTx (hc : X.calm = true) : CallR X (.type "set") (rSetTx X.prog X.w) := by
  intro pins s σ H xs us Q I r h
  obtain ⟨z, rfl, few, q⟩ := h
  cases r with
  | cons r1 rs =>
    cases rs
    obtain ⟨t, rfl⟩ := r1
    refine tx_fill (I.ok.hd hc) few fun h' tk L x g k => ?_
    have nd : L.Nodup := by obtain ⟨_, _, _, _, _, _, _, r⟩ := x; exact r.nd
    exact ⟨.ref s.heap.objs.size, _, I.laid (t' := tk) k (Nat.le_refl _) (txO_new x), rfl, q _ L (I.hok.fresh (Nat.le_refl _)) nd g⟩
/-- sorted(set(text)) -/
def rSortTx (P : Program) (w : World) : List V → Hp → VK → Prop := fun xs H Q => ∃ a zs L, xs = [.ref a] ∧ H a = some (TxO P w a L) ∧ SignsOf zs L ∧ L.length < 64 ∧
  ∀ (cs : List Nat) p, cs.Pairwise (· < ·) → (∀ c, c ∈ cs ↔ c ∈ zs) → H p = none → Q (.ref p) (upd H p (.lst (cs.map fun c => .str ⟨#[c]⟩)))
def strV (v : Value) : Str := match v with
  | .str z _ => z
  | _ => ""
theorem strs_are : ∀ {vs : List Value}, (∀ v ∈ vs, ∃ z tk, v = Value.str z tk) → StrsAre vs (vs.map strV)
  | [], _ => .nil
  | v :: vs, h => by
    obtain ⟨z, tk, rfl⟩ := h v List.mem_cons_self
    exact .cons z tk (strs_are fun y hy => h y (List.mem_cons_of_mem _ hy))
theorem cr_sortedTx (hc : X.calm = true) : CallR X (.builtin "sorted") (rSortTx X.prog X.w) := by
  intro pins s σ H xs us Q I r h
  obtain ⟨a, zs, L, rfl, ha, g, few, q⟩ := h
  rw [Vals.ref1 r]
  obtain ⟨o, es, ep, t, ho, hx, hd, raw⟩ := (show ObjOk X.prog X.w H s.heap a (TxO X.prog X.w a L) from I.hok _ _ ha).1
  have n1 : es.size = L.length := tx_size raw
  refine Calls.call_function_entry kind_sorted plain_sorted entry_sorted (args_sorted1 _) ?_
  unfold Builtin.«sorted»
  refine wpAny_bind (m := checkCount "sorted" 1 1 _) (wpAny_pure ?_)
  refine wpAny_bind (collect_set (A := X.A.in1) (I.ok.hd hc) ⟨o, ho, hx.1, hd⟩ raw.fit (by rw [n1]; exact raw.few) raw.ris raw.led fun s1 vs up sz g1 o1 pm => ?_)
  have each : ∀ v ∈ vs, ∃ z tk, v = Value.str z tk := fun v hv => by
    obtain ⟨e, he, q⟩ := List.mem_map.mp (pm.mem_iff.mp hv)
    obtain ⟨z, tk, rfl⟩ := raw.each e he
    exact ⟨z, tk, q.symm⟩
  have hS := strs_are each
  have p1 : (vs.map strV).Perm L := by
    have e := pm.map strV
    rw [List.map_map] at e
    exact e.trans raw.perm
  have n2 : vs.length = L.length := by rw [← p1.length_eq, List.length_map]
  refine wpAny_bind (wpAny_newList ?_ (by rw [n2, sizeLine_eq]; omega))
  have at1 : (s1.heap.push (seqObj "list" vs.toArray 0)).get? s1.heap.objs.size = some (seqObj "list" vs.toArray 0) := Heap.get?_push_size _ rfl
  refine wpAny_bind (wpAny_holding (wpAny_call_entry slot_list_sort ⟨_, at1, rfl⟩ entry_list_sort (list_sort_treeK strKind_oneLt at1 hS.keysOf (fun v₁ v₂ rest e => keyKind_strs (by rw [← e]; exact hS)) (by rw [n2]; exact few) fun st hp hs => ?_) (args_list_sort _)))
  obtain ⟨ys, b1, b2, b3⟩ := sorted_out_str hS hp hs
  obtain ⟨c, at2⟩ := sortedHeap_at (vs := vs) (out := (arrOf st).map (·.2)) at1
  have p2 : ys.Perm L := b2.trans p1
  obtain ⟨cs, rfl⟩ : ∃ cs : List Nat, ys = cs.map fun c => (⟨#[c]⟩ : Str) := by
    have : ∀ l : List Str, (∀ y ∈ l, ∃ c : Nat, y = (⟨#[c]⟩ : Str)) → ∃ cs : List Nat, l = cs.map fun c => (⟨#[c]⟩ : Str) := by
      intro l
      induction l with
      | nil => intro _; exact ⟨[], rfl⟩
      | cons y l ih =>
        intro h
        obtain ⟨c, rfl⟩ := h y List.mem_cons_self
        obtain ⟨cs, rfl⟩ := ih fun z hz => h z (List.mem_cons_of_mem _ hz)
        exact ⟨c :: cs, rfl⟩
    exact this ys fun y hy => by
      obtain ⟨c, _, e⟩ := (g y).mp (p2.mem_iff.mp hy)
      exact ⟨c, e⟩
  have rise := signs_rise cs b3 (p2.nodup_iff.mpr raw.nd)
  have mem : ∀ c, c ∈ cs ↔ c ∈ zs := fun c => by
    constructor
    · intro hc
      obtain ⟨d, hd, e⟩ := (g _).mp (p2.mem_iff.mp (List.mem_map.mpr ⟨c, hc, rfl⟩))
      cases e
      exact hd
    · intro hc
      obtain ⟨d, hd, e⟩ := List.mem_map.mp (p2.mem_iff.mpr ((g ⟨#[c]⟩).mpr ⟨c, hc, rfl⟩))
      cases e
      exact hd
  have ll : (cs.map fun c => V.str ⟨#[c]⟩).length ≤ sizeLine := by
    have := p2.length_eq
    rw [List.length_map] at this ⊢
    rw [this, sizeLine_eq]
    omega
  have hv : Vals (cs.map fun c => V.str ⟨#[c]⟩) ((arrOf st).map (·.2)).toList := by
    have e := vals_of_strs b1
    rw [List.map_map] at e
    exact e
  have old : ∀ b u, s.heap.get? b = some u → (sortedHeap (s1.heap.push (seqObj "list" vs.toArray 0)) s1.heap.objs.size vs ((arrOf st).map (·.2))).get? b = some u := fun b u e => by
    have h1 := up b u e
    have h2 := Heap.lt_size h1
    exact (sortedHeap_old (Nat.ne_of_lt h2) (by rw [size_push']; exact Nat.lt_succ_of_lt h2)).trans (Heap.get?_push_of_some _ h1)
  have fresh : H s1.heap.objs.size = none := I.hok.fresh sz
  have newO : ObjOk X.prog X.w (upd H s1.heap.objs.size (.lst (cs.map fun c => V.str ⟨#[c]⟩))) (sortedHeap (s1.heap.push (seqObj "list" vs.toArray 0)) s1.heap.objs.size vs ((arrOf st).map (·.2))) s1.heap.objs.size (.lst (cs.map fun c => V.str ⟨#[c]⟩)) := ⟨ll, _, c, hv, at2⟩
  refine ⟨_, rfl, wpAny_pure ⟨_, rfl, .ref s1.heap.objs.size, upd H s1.heap.objs.size (.lst (cs.map fun c => V.str ⟨#[c]⟩)), ?_, rfl, q cs _ rise mem fresh⟩⟩
  refine I.call' (ch := []) o1 (Un.laid old sz fresh) (I.hok.laid old sz newO) ?_ (fun _ z => nomatch z)
  show AllBare s1.gens
  rw [g1]
  exact I.bare
end
end SWL
set_option Elab.async false
set_option linter.all false
set_option maxRecDepth 100000
set_option maxHeartbeats 4000000
namespace SWL
open PySem PySem.Spec PyProof.Rows L2 LamX
/-! dicts whose keys are nested tuples of numbers and texts -/
mutual
inductive NkAt (H : Hp) : V → NestedKey → Prop
  | int (i : Int) : NkAt H (.int i) (.num i)
  | str (z : Str) : NkAt H (.str z) (.text z)
  | tup {a : Addr} {xs : List V} {ks : List NestedKey} : H a = some (.tup xs) → NkAll H xs ks → NkAt H (.ref a) (.tup ks)
inductive NkAll (H : Hp) : List V → List NestedKey → Prop
  | nil : NkAll H [] []
  | cons {x : V} {k : NestedKey} {xs : List V} {ks : List NestedKey} : NkAt H x k → NkAll H xs ks → NkAll H (x :: xs) (k :: ks)
end
mutual
theorem NkAt.keep {H H' : Hp} (g : ∀ b xs, H b = some (.tup xs) → H' b = some (.tup xs)) : ∀ (k : NestedKey) {x : V}, NkAt H x k → NkAt H' x k
  | _, _, .int i => .int i
  | _, _, .str z => .str z
  | .tup ks, _, .tup h t => .tup (g _ _ h) (NkAll.keep g ks t)
theorem NkAll.keep {H H' : Hp} (g : ∀ b xs, H b = some (.tup xs) → H' b = some (.tup xs)) : ∀ (ks : List NestedKey) {xs : List V}, NkAll H xs ks → NkAll H' xs ks
  | _, _, .nil => .nil
  | k :: ks, _, .cons h t => .cons (NkAt.keep g k h) (NkAll.keep g ks t)
end
section
variable {X : Cx} {pins : List (Addr × Obj)} {σ : L2.St} {H : Hp} {s : Shared}
mutual
theorem nk_is (I : Inv X pins σ H s) : ∀ (k : NestedKey) {x : V} {u : Value}, NkAt H x k → RelV x u → NestedIs s.heap k u
  | _, _, _, .int i, r => by obtain ⟨t, rfl⟩ := r; exact .int i t
  | _, _, _, .str z, r => by obtain ⟨t, rfl⟩ := r; exact .text z t
  | .tup ks, _, _, @NkAt.tup _ a xs _ h t, r => by
    cases r
    obtain ⟨_, its, rv, o, ho, hc, n, hd⟩ := (show ObjOk X.prog X.w H s.heap a (.tup xs) from I.hok _ _ h)
    exact .tup ho hc hd (by rw [List.toList_toArray]; exact nk_all I ks t rv)
theorem nk_all (I : Inv X pins σ H s) : ∀ (ks : List NestedKey) {xs : List V} {us : List Value}, NkAll H xs ks → Vals xs us → NestedAll s.heap ks us
  | _, _, _, .nil, r => by cases r; exact .nil
  | k :: ks, _, _, .cons h t, r => by
    cases r with
    | cons r1 r2 => exact .cons (nk_is I k h r1) (nk_all I ks t r2)
end
abbrev NRow := NestedKey × Addr × V
abbrev NRaw := NestedKey × Addr × Value
def RowIs (r : NRow) (x : NRaw) : Prop := r.1 = x.1 ∧ r.2.1 = x.2.1 ∧ RelV r.2.2 x.2.2
def NdRaw (P : Program) (w : World) (a : Addr) (xs : List NRaw) (h : Heap) : Prop := ∃ o es ep, h.get? a = some o ∧ o.ExactDict ∧ o.data = .dict es ep ∧ es.toList = xs.map (entryOfKey (nestedKind P w)) ∧ (xs.map (·.1)).Nodup
def NdAt (P : Program) (w : World) (a : Addr) (rows : List NRow) (h : Heap) : Prop := (a == sysModules) = false ∧ rows.length ≤ sizeLine ∧ ∃ xs, Paired RowIs rows xs ∧ NdRaw P w a xs h
/-- the dict at a, its rows: key, the key's place, value -/
def NDO (P : Program) (w : World) (a : Addr) (rows : List NRow) : HO := .ext fun h => NdAt P w a rows h
theorem nd_new {P : Program} {w : World} {H : Hp} {h : Heap} {a : Addr} {rows : List NRow} (x : NdAt P w a rows h) : ObjOk P w H h a (NDO P w a rows) := by
  refine ⟨x, (by obtain ⟨_, _, _, _, o, _, _, e, _⟩ := x; exact ⟨o, e⟩), fun h1 h2 y k => ?_⟩
  obtain ⟨y1, y2, xs, r, o, es, ep, e, c⟩ := (show NdAt P w a rows h1 from y)
  exact ⟨y1, y2, xs, r, o, es, ep, k _ e, c⟩
def KeysAt (H : Hp) (rows : List NRow) : Prop := ∀ r ∈ rows, NkAt H (.ref r.2.1) r.1 ∧ r.1.depth ≤ 8
theorem nd_dict (I : Inv X pins σ H s) {a : Addr} {rows : List NRow} (e : H a = some (NDO X.prog X.w a rows)) (ks : KeysAt H rows) : (a == sysModules) = false ∧ rows.length ≤ sizeLine ∧ ∃ xs, Paired RowIs rows xs ∧ s.heap.DictOfH (nestedKind X.prog X.w) a xs := by
  obtain ⟨y1, y2, xs, r, o, es, ep, e1, e2, e3, e4, e5⟩ := (show NdAt X.prog X.w a rows s.heap from (I.hok _ _ e).1)
  refine ⟨y1, y2, xs, r, o, es, ep, e1, e2, e3, e4, ?_, e5⟩
  have key : ∀ {rows : List NRow} {xs : List NRaw}, Paired RowIs rows xs → KeysAt H rows → ∀ x ∈ xs, (nestedKind X.prog X.w).is s.heap x.1 x.2.1 := by
    intro rows xs r
    induction r with
    | nil => intro _ x hx; cases hx
    | @cons p q _ _ h _ ih =>
      intro ks x hx
      rcases List.mem_cons.mp hx with rfl | hx
      · obtain ⟨k1, k2⟩ := ks p List.mem_cons_self
        obtain ⟨h1, h2, _⟩ := h
        rw [← h1, ← h2]
        exact ⟨nk_is I _ k1 rfl, k2⟩
      · exact ih (fun r hr => ks r (List.mem_cons_of_mem _ hr)) x hx
  exact key r ks
/-- {} -/
def tDNewN (P : Program) (w : World) : TE := fun _ H Q => ∀ p, H p = none → Q (.ref p) (upd H p (NDO P w p []))
def valN (rows : List NRow) (k : NestedKey) : Option V := (rows.find? fun r => decide (r.1 = k)).map (·.2.2)
theorem val_at {k : NestedKey} : ∀ {rows : List NRow} {xs : List NRaw}, Paired RowIs rows xs → (valN rows k = none ∧ atKey xs k = none) ∨ ∃ v p, valN rows k = some v ∧ atKey xs k = some p ∧ RelV v p.2 := by
  intro rows xs r
  induction r with
  | nil => exact .inl ⟨rfl, rfl⟩
  | @cons p q ps qs h _ ih =>
    obtain ⟨h1, h2, h3⟩ := h
    unfold valN atKey at ih ⊢
    by_cases c : p.1 = k
    · have c2 : q.1 = k := h1.symm.trans c
      rw [List.find?_cons_of_pos (by exact decide_eq_true c), List.find?_cons_of_pos (by exact decide_eq_true c2)]
      exact .inr ⟨p.2.2, q.2, rfl, rfl, h3⟩
    · have c2 : ¬ q.1 = k := fun z => c (h1.trans z)
      rw [List.find?_cons_of_neg (by simpa using c), List.find?_cons_of_neg (by simpa using c2)]
      exact ih
theorem paired_snoc {α β : Type} {R : α → β → Prop} : ∀ {l : List α} {m : List β} {a : α} {b : β}, Paired R l m → R a b → Paired R (l ++ [a]) (m ++ [b])
  | _, _, _, _, .nil, h => .cons h .nil
  | _, _, _, _, .cons r t, h => .cons r (paired_snoc t h)
end
theorem paired_len {α β : Type} {R : α → β → Prop} : ∀ {l : List α} {m : List β}, Paired R l m → l.length = m.length
  | _, _, .nil => rfl
  | _, _, .cons _ t => by rw [List.length_cons, List.length_cons, paired_len t]
theorem nd_empty {P : Program} {w : World} (h : Heap) (hb : sysModules < h.objs.size) : NdAt P w h.objs.size [] (h.push { cls := .type "dict", data := .dict #[] }) :=
  ⟨beq_eq_false_iff_ne.mpr fun z => Nat.ne_of_lt hb z.symm, Nat.zero_le _, [], .nil, _, #[], 0, Heap.get?_push_size _ rfl, ⟨rfl, rfl, rfl⟩, rfl, rfl, List.nodup_nil⟩
def rLenN (P : Program) (w : World) : List V → Hp → VK → Prop := fun xs H Q => ∃ a rows, xs = [.ref a] ∧ H a = some (NDO P w a rows) ∧ KeysAt H rows ∧ Q (.int (rows.length : Nat)) H
/-- what comes of it: the value that is there, or the new one, put in -/
def setdQ (P : Program) (w : World) (Q : VK) (rows : List NRow) (a b : Addr) (k : NestedKey) (z : V) (H : Hp) : Prop := (∀ v, valN rows k = some v → Q v H) ∧ (valN rows k = none → Q z (upd H a (NDO P w a (rows ++ [(k, b, z)]))))
theorem setd_one {P : Program} {w : World} {Q : VK} {rows : List NRow} {a b : Addr} {k : NestedKey} {z : V} {H : Hp} (R : V → Hp → Prop) (h : ∀ v Hx, R v Hx → Q v Hx) (h1 : ∀ v, valN rows k = some v → R v H) (h2 : valN rows k = none → R z (upd H a (NDO P w a (rows ++ [(k, b, z)])))) : setdQ P w Q rows a b k z H :=
  ⟨fun v hv => h _ _ (h1 v hv), fun hn => h _ _ (h2 hn)⟩
/-- d.setdefault(k, x) -/
def tNSetd (P : Program) (w : World) (td ty tx : TE) : TE := fun σ H Q => td σ H fun x H1 => ∃ a, x = .ref a ∧ (∃ rows, H1 a = some (NDO P w a rows)) ∧ ty σ H1 fun y H2 => tx σ H2 fun z H3 =>
  ∃ rows b k, H3 a = some (NDO P w a rows) ∧ KeysAt H3 rows ∧ y = .ref b ∧ NkAt H3 (.ref b) k ∧ k.depth ≤ 8 ∧ rows.length < sizeLine ∧ setdQ P w Q rows a b k z H3
section
variable {X : Cx} {pos : Pos}
theorem pe_dnewN : PE X (.Dict [] [] pos) (tDNewN X.prog X.w) := ⟨fun pins s σ H Q I q =>
  wpAny_Dict_empty ⟨V.ref s.heap.objs.size, _, I.laid (t' := s.toks) (fun b u e => Heap.get?_push_of_some _ e) (Nat.le_refl _) (nd_new (nd_empty s.heap I.big)), rfl, q _ (I.hok.fresh (Nat.le_refl _))⟩⟩
theorem cr_lenN : CallR X (.builtin "len") (rLenN X.prog X.w) := by
  intro pins s σ H xs us Q I r h
  obtain ⟨a, rows, rfl, ha, ks, q⟩ := h
  rw [Vals.ref1 r]
  obtain ⟨lo, z, xs, rel, dd⟩ := nd_dict I ha ks
  have hl := paired_len rel
  refine call_len_dictH lo dd (by rw [← hl]; rw [sizeLine_eq] at z; omega) ?_
  rw [← hl]
  exact ⟨.int (rows.length : Nat), H, I.tok _, ⟨_, rfl⟩, q⟩
theorem pe_dsetdN {o e f : Expr} {td ty tx : TE} {apos cpos : Pos} (hu : X.A.units + 16 < cLine) (ho : PE X o td) (he : PE X e ty) (hf : PE X f tx) (m : M2 X o "setdefault" apos e f cpos) : PE X (.Call (.Attribute o "setdefault" apos) [e, f] [] cpos) (tNSetd X.prog X.w td ty tx) := by
  refine ⟨fun pins s σ H Q I h => ?_⟩
  refine wpAny_Call_method m.base m.few m.line PySem.F.plainAttrs_dict PySem.F.slot_dict_setdefault PySem.F.type_dict_setdefault (thn (ho.run pins s σ H _ I h) fun u s1 ⟨x, H1, I1, rx, a, ex, ⟨rows0, d⟩, q1⟩ => ?_)
  subst ex
  cases rx
  obtain ⟨_, _, _, _, ob, es0, _, g1, g2, _⟩ := (show NdAt X.prog X.w a rows0 s1.heap from (I1.hok _ _ d).1)
  refine ⟨⟨ob, g1, g2.1⟩, fun b z => ?_, ?_⟩
  · cases z
    exact ⟨ob, g1, g2.2.1⟩
  rw [m.trees]
  refine Calls.callWith_builtin rfl (Calls.evalArgs_plain (Calls.spliced_cons (thn (he.run pins s1 σ H1 _ I1 q1) fun iv s2 ⟨y, H2, I2, ry, q2⟩ => Calls.spliced_cons (thn (hf.run pins s2 σ H2 _ I2 q2) fun fv s3 ⟨z, H3, I3, rz, rows, b, k, ea, ks, ey, nk, dep, few, qq⟩ => Calls.spliced_nil ?_))))
  obtain ⟨q3, q4⟩ := qq
  subst ey
  cases ry
  obtain ⟨lo, zl, xs, rel, dd⟩ := nd_dict I3 ea ks
  have hl := paired_len rel
  refine call_setdefault_heap (knd := nestedKind X.prog X.w) (k := k) (xs := xs) (by show X.A.in1.units + 8 < cLine; show X.A.units + 1 + 8 < cLine; omega) ⟨nk_is I3 k nk rfl, dep⟩ lo dd (fun p hp => ?_) (fun hn h' dd' sb => ?_) (by rw [← hl]; exact zl)
  · rcases val_at (k := k) rel with ⟨_, h2⟩ | ⟨v, p', h1, h2, h3⟩
    · rw [h2] at hp
      cases hp
    · rw [h2] at hp
      cases hp
      exact ⟨v, H3, I3.tok _, h3, q3 v h1⟩
  · rcases val_at (k := k) rel with ⟨h1, _⟩ | ⟨v, p', _, h2, _⟩
    · rw [storedH_new hn] at dd'
      obtain ⟨o', es, ep, e1, e2, e3, e4, _, e5⟩ := dd'
      have new : NdAt X.prog X.w a (rows ++ [(k, b, z)]) h' := ⟨lo, by rw [List.length_append]; exact few, xs ++ [(k, b, fv)], paired_snoc rel ⟨rfl, rfl, rz⟩, o', es, ep, e1, e2, e3, e4, e5⟩
      exact ⟨z, _, I3.write (e := a) (by rw [ea]; exact True.intro) (.inl rfl) (fun c u hc hu => (sb.2 c hc).trans hu) ⟨o', e1⟩ (nd_new new), rz, q4 h1⟩
    · rw [hn] at h2
      cases h2
end
end SWL
set_option Elab.async false
set_option linter.all false
set_option maxRecDepth 100000
set_option maxHeartbeats 4000000
namespace SWL
open PySem PySem.Spec PyProof.Rows L2 LamX
/-! two nested tuples, compared -/
def rEqN : R2 := fun x y H Q => ∃ ks ls, NkAt H x (.tup ks) ∧ NkAt H y (.tup ls) ∧ (NestedKey.tup ks).depth ≤ 64 ∧ Q (.bl (NestedKey.beq (.tup ks) (.tup ls))) H
section
variable {X : Cx}
theorem op_eqN (hu : X.A.units + 70 < cLine) : OpR X (compareOp .Eq) rEqN := by
  intro pins s σ H x y v u Q I rx ry h
  obtain ⟨ks, ls, h1, h2, dep, q⟩ := h
  have i1 := nk_is I _ h1 rx
  have i2 := nk_is I _ h2 ry
  cases i1 with
  | @tup a o vs n _ a1 a2 a3 a4 =>
    cases i2 with
    | @tup b o' ws m _ b1 b2 b3 b4 =>
      have n1 : vs.size = ks.length := by simpa using NestedAll.length _ _ a4
      have n2 : ws.size = ls.length := by simpa using NestedAll.length _ _ b4
      have dd : NestedKey.depthAll ks ≤ 64 := by
        have : NestedKey.depthAll ks + 1 ≤ 64 := dep
        omega
      refine PySem.SeqAt.eq_tupleAt ⟨_, a1, a2, _, a3⟩ ⟨_, b1, b2, _, b3⟩ (e := keyEqAt ks ls) (by omega) (fun j j1 j2 => ?_) ?_
      · have r : X.A.in1.units + min (NestedKey.depthAll ks) (NestedKey.depthAll ls) < cLine := by
          have : X.A.in1.units = X.A.units + 1 := rfl
          omega
        have e := eqAt_keys ks ls X.A.in1 s vs.toList ws.toList a4 b4 r j (by simpa using j1) (by simpa using j2)
        simpa using e
      · rw [n1, n2, beqAll_eq]
        exact ⟨.bl _, H, I.tok _, rfl, q⟩
end
end SWL
set_option Elab.async false
set_option linter.all false
set_option maxRecDepth 100000
set_option maxHeartbeats 4000000
namespace SWL
open PySem PySem.Spec
/-! the mathematics: what is ahead of and behind a letter's first and last place; the keys by turns -/
abbrev Wl := List Nat
def no (c : Nat) : Nat → Bool := fun d => !decide (d = c)
def bf (c : Nat) (w : Wl) : Wl := w.takeWhile (no c)
def af (c : Nat) (w : Wl) : Wl := (w.dropWhile (no c)).drop 1
def bl (c : Nat) (w : Wl) : Wl := (af c w.reverse).reverse
def al (c : Nat) (w : Wl) : Wl := (bf c w.reverse).reverse
theorem no_eq (c : Nat) : no c c = false := by simp [no]
theorem no_ne {c d : Nat} (h : d ≠ c) : no c d = true := by simp [no, h]
theorem bf_cons (c d : Nat) (w : Wl) : bf c (d :: w) = if d = c then [] else d :: bf c w := by
  unfold bf
  by_cases h : d = c
  · rw [if_pos h, h, List.takeWhile_cons, no_eq]
    rfl
  · rw [if_neg h, List.takeWhile_cons, no_ne h]
    rfl
theorem af_cons (c d : Nat) (w : Wl) : af c (d :: w) = if d = c then w else af c w := by
  unfold af
  by_cases h : d = c
  · rw [if_pos h, h, List.dropWhile_cons, no_eq]
    rfl
  · rw [if_neg h, List.dropWhile_cons, no_ne h]
    rfl
theorem bf_split {c : Nat} : ∀ {w : Wl}, c ∈ w → w = bf c w ++ c :: af c w
  | d :: w, h => by
    rw [bf_cons, af_cons]
    by_cases e : d = c
    · rw [if_pos e, if_pos e, e]
      rfl
    · rw [if_neg e, if_neg e]
      have h' : c ∈ w := (List.mem_cons.mp h).resolve_left fun z => e z.symm
      exact congrArg (d :: ·) (bf_split h')
theorem bf_not (c : Nat) : ∀ w : Wl, c ∉ bf c w
  | [], h => by cases h
  | d :: w, h => by
    rw [bf_cons] at h
    by_cases e : d = c
    · rw [if_pos e] at h
      cases h
    · rw [if_neg e] at h
      rcases List.mem_cons.mp h with z | z
      · exact e z.symm
      · exact bf_not c w z
theorem bl_split {c : Nat} {w : Wl} (h : c ∈ w) : w = bl c w ++ c :: al c w := by
  have e := congrArg List.reverse (bf_split (List.mem_reverse.mpr h))
  rw [List.reverse_reverse, List.reverse_append, List.reverse_cons] at e
  rw [List.append_assoc] at e
  exact e
theorem bf_at {c : Nat} : ∀ {w : Wl} {i : Nat}, w[i]? = some c → (∀ k, k < i → w[k]? ≠ some c) → bf c w = w.take i ∧ af c w = w.drop (i + 1)
  | d :: w, 0, h, _ => by
    have e : d = c := Option.some.inj h
    rw [bf_cons, af_cons, if_pos e, if_pos e]
    exact ⟨rfl, rfl⟩
  | d :: w, i + 1, h, n => by
    have e : d ≠ c := fun z => n 0 (Nat.succ_pos _) (by rw [z]; rfl)
    rw [bf_cons, af_cons, if_neg e, if_neg e]
    obtain ⟨h1, h2⟩ := bf_at (w := w) (i := i) h fun k hk => n (k + 1) (Nat.succ_lt_succ hk)
    exact ⟨by rw [h1]; rfl, h2⟩
theorem bl_at {c : Nat} {w : Wl} {i : Nat} (h : w[i]? = some c) (n : ∀ k, i < k → w[k]? ≠ some c) : bl c w = w.take i ∧ al c w = w.drop (i + 1) := by
  have hi := (List.getElem?_eq_some_iff.mp h).1
  have e1 : w.reverse[w.length - 1 - i]? = some c := by
    rw [List.getElem?_reverse (by omega)]
    rw [show w.length - 1 - (w.length - 1 - i) = i by omega]
    exact h
  obtain ⟨h1, h2⟩ := bf_at e1 fun k hk => by
    rw [List.getElem?_reverse (by omega)]
    exact n _ (by omega)
  unfold bl al
  rw [h1, h2]
  constructor
  · rw [List.drop_reverse, List.reverse_reverse]
    rw [show w.length - (w.length - 1 - i + 1) = i by omega]
  · rw [List.take_reverse, List.reverse_reverse]
    rw [show w.length - (w.length - 1 - i) = i + 1 by omega]
theorem bf_len {c : Nat} {w : Wl} (h : c ∈ w) : (bf c w).length < w.length ∧ (af c w).length < w.length := by
  have := congrArg List.length (bf_split h)
  rw [List.length_append, List.length_cons] at this
  omega
theorem bl_len {c : Nat} {w : Wl} (h : c ∈ w) : (bl c w).length < w.length ∧ (al c w).length < w.length := by
  have := congrArg List.length (bl_split h)
  rw [List.length_append, List.length_cons] at this
  omega
/-- the letters of a word, each once, in order -/
def sgn (w : Wl) : List Nat := (List.range (w.foldr max 0 + 1)).filter fun c => decide (c ∈ w)
theorem le_max : ∀ {w : Wl} {c : Nat}, c ∈ w → c ≤ w.foldr max 0
  | d :: w, c, h => by
    rw [List.foldr_cons]
    rcases List.mem_cons.mp h with rfl | h
    · exact Nat.le_max_left _ _
    · exact Nat.le_trans (le_max h) (Nat.le_max_right _ _)
theorem mem_sgn {w : Wl} {c : Nat} : c ∈ sgn w ↔ c ∈ w := by
  unfold sgn
  rw [List.mem_filter, List.mem_range]
  exact ⟨fun h => of_decide_eq_true h.2, fun h => ⟨Nat.lt_succ_of_le (le_max h), decide_eq_true h⟩⟩
theorem rise_sgn (w : Wl) : (sgn w).Pairwise (· < ·) := List.pairwise_lt_range.filter _
theorem rise_eq : ∀ {a b : List Nat}, a.Pairwise (· < ·) → b.Pairwise (· < ·) → (∀ c, c ∈ a ↔ c ∈ b) → a = b
  | [], [], _, _, _ => rfl
  | [], y :: b, _, _, h => absurd ((h y).mpr List.mem_cons_self) (by simp)
  | x :: a, [], _, _, h => absurd ((h x).mp List.mem_cons_self) (by simp)
  | x :: a, y :: b, ha, hb, h => by
    obtain ⟨a1, a2⟩ := List.pairwise_cons.mp ha
    obtain ⟨b1, b2⟩ := List.pairwise_cons.mp hb
    have e : x = y := by
      rcases List.mem_cons.mp ((h x).mp List.mem_cons_self) with z | z
      · exact z
      · rcases List.mem_cons.mp ((h y).mpr List.mem_cons_self) with z' | z'
        · exact z'.symm
        · have := b1 x z
          have := a1 y z'
          omega
    subst e
    rw [rise_eq a2 b2 fun c => ?_]
    have k := h c
    rw [List.mem_cons, List.mem_cons] at k
    constructor
    · intro hc
      exact (k.mp (.inr hc)).resolve_left fun z => by have := a1 c hc; omega
    · intro hc
      exact (k.mpr (.inr hc)).resolve_left fun z => by have := b1 c hc; omega
theorem sgn_eq {a b : Wl} (h : ∀ c, c ∈ a ↔ c ∈ b) : sgn a = sgn b := rise_eq (rise_sgn a) (rise_sgn b) fun c => by rw [mem_sgn, mem_sgn, h c]
theorem sgn_rev (w : Wl) : sgn w.reverse = sgn w := sgn_eq fun c => List.mem_reverse
/-! the keys -/
def sg (c : Nat) : Str := ⟨#[c]⟩
def keyL (g : Wl → NestedKey) : Nat → Wl → NestedKey
  | 0, _ => .tup []
  | f + 1, w => .tup ((sgn w).map fun c => .tup [.text (sg c), keyL g f (bf c w), g (af c w), g (bl c w), keyL g f (al c w)])
def keyK : Nat → Wl → NestedKey
  | 0 => fun _ => .tup []
  | n + 1 => fun w => keyL (keyK n) w.length w
theorem keyL_fuel (g : Wl → NestedKey) : ∀ (f f' : Nat) (w : Wl), w.length ≤ f → w.length ≤ f' → keyL g f w = keyL g f' w
  | 0, 0, w, _, _ => rfl
  | 0, f' + 1, w, h, _ => by
    have : w = [] := List.length_eq_zero_iff.mp (Nat.le_zero.mp h)
    subst this
    rfl
  | f + 1, 0, w, _, h => by
    have : w = [] := List.length_eq_zero_iff.mp (Nat.le_zero.mp h)
    subst this
    rfl
  | f + 1, f' + 1, w, h, h' => by
    show NestedKey.tup _ = NestedKey.tup _
    refine congrArg NestedKey.tup (List.map_congr_left fun c hc => ?_)
    have m := mem_sgn.mp hc
    have l1 := bf_len m
    have l2 := bl_len m
    rw [keyL_fuel g f f' (bf c w) (by omega) (by omega), keyL_fuel g f f' (al c w) (by omega) (by omega)]
def entK (n : Nat) (w : Wl) (c : Nat) : NestedKey := .tup [.text (sg c), keyK (n + 1) (bf c w), keyK n (af c w), keyK n (bl c w), keyK (n + 1) (al c w)]
theorem keyK_succ (n : Nat) (w : Wl) : keyK (n + 1) w = .tup ((sgn w).map (entK n w)) := by
  show keyL (keyK n) w.length w = _
  cases hw : w.length with
  | zero =>
    have : w = [] := List.length_eq_zero_iff.mp hw
    subst this
    rfl
  | succ m =>
    show NestedKey.tup _ = NestedKey.tup _
    refine congrArg NestedKey.tup (List.map_congr_left fun c hc => ?_)
    have mm := mem_sgn.mp hc
    have l1 := bf_len mm
    have l2 := bl_len mm
    show NestedKey.tup [_, keyL (keyK n) m (bf c w), _, _, keyL (keyK n) m (al c w)] = NestedKey.tup [_, keyL (keyK n) (bf c w).length (bf c w), _, _, keyL (keyK n) (al c w).length (al c w)]
    rw [keyL_fuel (keyK n) m _ (bf c w) (by omega) (Nat.le_refl _), keyL_fuel (keyK n) m _ (al c w) (by omega) (Nat.le_refl _)]
theorem sg_inj {c d : Nat} (h : sg c = sg d) : c = d := by
  unfold sg at h
  cases h
  rfl
theorem map_inj_at {α β : Type} {f g : α → β} (k : ∀ a b, f a = g b → a = b) : ∀ {l m : List α}, l.map f = m.map g → l = m ∧ ∀ a ∈ l, f a = g a
  | [], [], _ => ⟨rfl, fun a h => by cases h⟩
  | [], _ :: _, h => by cases h
  | _ :: _, [], h => by cases h
  | a :: l, b :: m, h => by
    rw [List.map_cons, List.map_cons] at h
    obtain ⟨h1, h2⟩ := List.cons.inj h
    obtain ⟨e1, e2⟩ := map_inj_at k h2
    have e := k a b h1
    subst e
    subst e1
    refine ⟨rfl, fun x hx => ?_⟩
    rcases List.mem_cons.mp hx with rfl | hx
    · exact h1
    · exact e2 x hx
/-- two words are alike by n turns -/
def Alike (n : Nat) (u v : Wl) : Prop := keyK n u = keyK n v
theorem alike_zero (u v : Wl) : Alike 0 u v := rfl
theorem alike_succ {n : Nat} {u v : Wl} : Alike (n + 1) u v ↔ (∀ c, c ∈ u ↔ c ∈ v) ∧ ∀ c ∈ u, Alike (n + 1) (bf c u) (bf c v) ∧ Alike n (af c u) (af c v) ∧ Alike n (bl c u) (bl c v) ∧ Alike (n + 1) (al c u) (al c v) := by
  unfold Alike
  rw [keyK_succ, keyK_succ]
  constructor
  · intro h
    obtain ⟨e1, e2⟩ := map_inj_at (fun a b h => by
      have := NestedKey.tup.inj h
      exact sg_inj (NestedKey.text.inj (List.cons.inj this).1)) (NestedKey.tup.inj h)
    refine ⟨fun c => by rw [← mem_sgn, e1, mem_sgn], fun c hc => ?_⟩
    have := NestedKey.tup.inj (e2 c (mem_sgn.mpr hc))
    simp only [List.cons.injEq, and_true] at this
    exact ⟨this.2.1, this.2.2.1, this.2.2.2.1, this.2.2.2.2⟩
  · rintro ⟨h1, h2⟩
    rw [sgn_eq h1]
    refine congrArg NestedKey.tup (List.map_congr_left fun c hc => ?_)
    obtain ⟨a1, a2, a3, a4⟩ := h2 c ((h1 c).mpr (mem_sgn.mp hc))
    unfold entK
    rw [a1, a2, a3, a4]
end SWL
set_option Elab.async false
set_option linter.all false
set_option maxRecDepth 100000
set_option maxHeartbeats 4000000
namespace SWL
open PySem PySem.Spec
theorem alike_mono : ∀ (n k : Nat) {u v : Wl}, u.length ≤ k → Alike (n + 1) u v → Alike n u v
  | 0, _, u, v, _, _ => alike_zero u v
  | n + 1, k, u, v, hk, h => by
    obtain ⟨h1, h2⟩ := alike_succ.mp h
    refine alike_succ.mpr ⟨h1, fun c hc => ?_⟩
    obtain ⟨a1, a2, a3, a4⟩ := h2 c hc
    have l1 := bf_len hc
    have l2 := bl_len hc
    cases k with
    | zero => omega
    | succ k => exact ⟨alike_mono (n + 1) k (by omega) a1, alike_mono n _ (Nat.le_refl _) a2, alike_mono n _ (Nat.le_refl _) a3, alike_mono (n + 1) k (by omega) a4⟩
theorem alike_less {n m : Nat} {u v : Wl} (h : Alike n u v) (hm : m ≤ n) : Alike m u v := by
  induction n with
  | zero =>
    obtain rfl : m = 0 := Nat.le_zero.mp hm
    exact h
  | succ n ih =>
    by_cases e : m = n + 1
    · rw [e]; exact h
    · exact ih (alike_mono n _ (Nat.le_refl _) h) (by omega)
theorem bf_rev (c : Nat) (w : Wl) : bf c w.reverse = (al c w).reverse := by unfold al; rw [List.reverse_reverse]
theorem af_rev (c : Nat) (w : Wl) : af c w.reverse = (bl c w).reverse := by unfold bl; rw [List.reverse_reverse]
theorem bl_rev (c : Nat) (w : Wl) : bl c w.reverse = (af c w).reverse := by unfold bl; rw [List.reverse_reverse]
theorem al_rev (c : Nat) (w : Wl) : al c w.reverse = (bf c w).reverse := by unfold al; rw [List.reverse_reverse]
theorem alike_rev_aux : ∀ (n k : Nat) {u v : Wl}, u.length ≤ k → Alike n u v → Alike n u.reverse v.reverse
  | 0, _, u, v, _, _ => alike_zero _ _
  | n + 1, k, u, v, hk, h => by
    obtain ⟨h1, h2⟩ := alike_succ.mp h
    refine alike_succ.mpr ⟨fun c => by rw [List.mem_reverse, List.mem_reverse, h1 c], fun c hc => ?_⟩
    rw [List.mem_reverse] at hc
    obtain ⟨a1, a2, a3, a4⟩ := h2 c hc
    have l1 := bf_len hc
    have l2 := bl_len hc
    rw [bf_rev, bf_rev, af_rev, af_rev, bl_rev, bl_rev, al_rev, al_rev]
    cases k with
    | zero => omega
    | succ k => exact ⟨alike_rev_aux (n + 1) k (by omega) a4, alike_rev_aux n _ (Nat.le_refl _) a3, alike_rev_aux n _ (Nat.le_refl _) a2, alike_rev_aux (n + 1) k (by omega) a1⟩
theorem alike_rev {n : Nat} {u v : Wl} : Alike n u.reverse v.reverse ↔ Alike n u v :=
  ⟨fun h => by
    have := alike_rev_aux n _ (Nat.le_refl _) h
    rw [List.reverse_reverse, List.reverse_reverse] at this
    exact this, fun h => alike_rev_aux n _ (Nat.le_refl _) h⟩
theorem bf_app_in {c : Nat} : ∀ {u : Wl} (v : Wl), c ∈ u → bf c (u ++ v) = bf c u ∧ af c (u ++ v) = af c u ++ v
  | d :: u, v, h => by
    rw [List.cons_append, bf_cons, bf_cons, af_cons, af_cons]
    by_cases e : d = c
    · rw [if_pos e, if_pos e, if_pos e, if_pos e]
      exact ⟨rfl, rfl⟩
    · rw [if_neg e, if_neg e, if_neg e, if_neg e]
      obtain ⟨h1, h2⟩ := bf_app_in v ((List.mem_cons.mp h).resolve_left fun z => e z.symm)
      rw [h1, h2]
      exact ⟨rfl, rfl⟩
theorem bf_app_out {c : Nat} : ∀ {u : Wl} (v : Wl), c ∉ u → bf c (u ++ v) = u ++ bf c v ∧ af c (u ++ v) = af c v
  | [], v, _ => ⟨rfl, rfl⟩
  | d :: u, v, h => by
    have e : d ≠ c := fun z => h (by rw [z]; exact List.mem_cons_self)
    rw [List.cons_append, bf_cons, af_cons, if_neg e, if_neg e]
    obtain ⟨h1, h2⟩ := bf_app_out v fun z => h (List.mem_cons_of_mem _ z)
    rw [h1, h2]
    exact ⟨rfl, rfl⟩
theorem bl_app_in {c : Nat} (u : Wl) {v : Wl} (h : c ∈ v) : bl c (u ++ v) = u ++ bl c v ∧ al c (u ++ v) = al c v := by
  obtain ⟨h1, h2⟩ := bf_app_in u.reverse (List.mem_reverse.mpr h)
  unfold bl al
  rw [List.reverse_append, h1, h2, List.reverse_append, List.reverse_reverse]
  exact ⟨rfl, rfl⟩
theorem bl_app_out {c : Nat} (u : Wl) {v : Wl} (h : c ∉ v) : bl c (u ++ v) = bl c u ∧ al c (u ++ v) = al c u ++ v := by
  obtain ⟨h1, h2⟩ := bf_app_out u.reverse (fun z => h (List.mem_reverse.mp z))
  unfold bl al
  rw [List.reverse_append, h1, h2, List.reverse_append, List.reverse_reverse]
  exact ⟨rfl, rfl⟩
theorem alike_right : ∀ (n k : Nat) {u u' v : Wl}, u.length + v.length ≤ k → Alike n u u' → Alike n (u ++ v) (u' ++ v)
  | 0, _, _, _, _, _, _ => alike_zero _ _
  | n + 1, k, u, u', v, hk, h => by
    obtain ⟨h1, h2⟩ := alike_succ.mp h
    refine alike_succ.mpr ⟨fun c => by rw [List.mem_append, List.mem_append, h1 c], fun c hc => ?_⟩
    have less := alike_mono n _ (Nat.le_refl _) h
    have last : Alike n (bl c (u ++ v)) (bl c (u' ++ v)) ∧ Alike (n + 1) (al c (u ++ v)) (al c (u' ++ v)) := by
      by_cases cv : c ∈ v
      · rw [(bl_app_in u cv).1, (bl_app_in u cv).2, (bl_app_in u' cv).1, (bl_app_in u' cv).2]
        exact ⟨alike_right n _ (Nat.le_refl _) less, rfl⟩
      · rw [(bl_app_out u cv).1, (bl_app_out u cv).2, (bl_app_out u' cv).1, (bl_app_out u' cv).2]
        have cu : c ∈ u := (List.mem_append.mp hc).resolve_right cv
        obtain ⟨_, _, a3, a4⟩ := h2 c cu
        have l2 := bl_len cu
        refine ⟨a3, ?_⟩
        cases k with
        | zero => omega
        | succ k => exact alike_right (n + 1) k (by omega) a4
    by_cases cu : c ∈ u
    · have cu' := (h1 c).mp cu
      obtain ⟨a1, a2, _, _⟩ := h2 c cu
      rw [(bf_app_in v cu).1, (bf_app_in v cu).2, (bf_app_in v cu').1, (bf_app_in v cu').2]
      exact ⟨a1, alike_right n _ (Nat.le_refl _) a2, last⟩
    · have cu' : c ∉ u' := fun z => cu ((h1 c).mpr z)
      have cv : c ∈ v := (List.mem_append.mp hc).resolve_left cu
      rw [(bf_app_out v cu).1, (bf_app_out v cu).2, (bf_app_out v cu').1, (bf_app_out v cu').2]
      have l1 := bf_len cv
      refine ⟨?_, rfl, last⟩
      cases k with
      | zero => omega
      | succ k => exact alike_right (n + 1) k (by omega) h
theorem alike_left {n : Nat} {u u' : Wl} (v : Wl) (h : Alike n u u') : Alike n (v ++ u) (v ++ u') := by
  rw [← alike_rev, List.reverse_append, List.reverse_append]
  exact alike_right n _ (Nat.le_refl _) (alike_rev.mpr h)
theorem alike_in {n : Nat} {u u' : Wl} (a b : Wl) (h : Alike n u u') : Alike n (a ++ u ++ b) (a ++ u' ++ b) := alike_right n _ (Nat.le_refl _) (alike_left a h)
def pow (p : Wl) (n : Nat) : Wl := (List.replicate n p).flatten
theorem pow_succ (p : Wl) (n : Nat) : pow p (n + 1) = p ++ pow p n := by
  unfold pow
  rw [List.replicate_succ, List.flatten_cons]
theorem pow_snoc (p : Wl) : ∀ n, pow p (n + 1) = pow p n ++ p
  | 0 => by rw [pow_succ]; show p ++ [] = [] ++ p; rw [List.append_nil]; rfl
  | n + 1 => by
    rw [pow_succ p (n + 1)]
    conv => lhs; rw [pow_snoc p n, ← List.append_assoc, ← pow_succ]
theorem pow_mem {p : Wl} {n c : Nat} (h : c ∈ pow p n) : c ∈ p := by
  obtain ⟨l, hl, hc⟩ := List.mem_flatten.mp h
  rw [(List.mem_replicate.mp hl).2] at hc
  exact hc
theorem alike_pump (p : Wl) : ∀ (n : Nat) (s : Wl) (m : Nat), (∀ c ∈ s, c ∈ p) → n ≤ m → Alike n (pow p n) (pow p n ++ s ++ pow p m)
  | 0, s, m, _, _ => alike_zero _ _
  | n + 1, s, m, hs, hm => by
    obtain ⟨m, rfl⟩ : ∃ k, m = k + 1 := ⟨m - 1, by omega⟩
    have e1 : pow p (n + 1) ++ s ++ pow p (m + 1) = p ++ (pow p n ++ s ++ pow p (m + 1)) := by rw [pow_succ p n, List.append_assoc, List.append_assoc, List.append_assoc]
    have e2 : pow p (n + 1) ++ s ++ pow p (m + 1) = (pow p n ++ (p ++ s) ++ pow p m) ++ p := by rw [pow_snoc p n, pow_snoc p m]; simp only [List.append_assoc]
    refine alike_succ.mpr ⟨fun c => ?_, fun c hc => ?_⟩
    · rw [e1, pow_succ, List.mem_append, List.mem_append]
      constructor
      · rintro (h | h)
        · exact .inl h
        · exact .inl (pow_mem h)
      · rintro (h | h)
        · exact .inl h
        · rcases List.mem_append.mp h with h | h
          · rcases List.mem_append.mp h with h | h
            · exact .inl (pow_mem h)
            · exact .inl (hs c h)
          · exact .inl (pow_mem h)
    · have cp := pow_mem hc
      have a := bf_app_in (pow p n) cp
      have b := bf_app_in (pow p n ++ s ++ pow p (m + 1)) cp
      have x := bl_app_in (pow p n) cp
      have y := bl_app_in (pow p n ++ (p ++ s) ++ pow p m) cp
      refine ⟨?_, ?_, ?_, ?_⟩
      · rw [e1, pow_succ, a.1, b.1]
        rfl
      · rw [e1, pow_succ, a.2, b.2]
        exact alike_left _ (alike_pump p n s (m + 1) hs (by omega))
      · rw [e2, pow_snoc, x.1, y.1]
        exact alike_right n _ (Nat.le_refl _) (alike_pump p n (p ++ s) m (fun d hd => by
          rcases List.mem_append.mp hd with h | h
          · exact h
          · exact hs d h) (by omega))
      · rw [e2, pow_snoc, x.2, y.2]
        rfl
end SWL
set_option Elab.async false
set_option linter.all false
set_option maxRecDepth 100000
set_option maxHeartbeats 4000000
namespace SWL
open PySem PySem.Spec
/-! the numbers of the keys: lots met so far, a lot's number its place and one more -/
abbrev Ids := Nat × Nat × Nat × Nat
abbrev LotK := Nat × List (Nat × Ids)
inductive Rel (L : List LotK) : Nat → Wl → Nat → Prop
  | zero (w : Wl) : Rel L 0 w 0
  | succ {n k : Nat} {w : Wl} (ps : List (Nat × Ids)) : ps.map (·.1) = sgn w → (∀ p ∈ ps, Rel L (n + 1) (bf p.1 w) p.2.1) → (∀ p ∈ ps, Rel L n (af p.1 w) p.2.2.1) → (∀ p ∈ ps, Rel L n (bl p.1 w) p.2.2.2.1) → (∀ p ∈ ps, Rel L (n + 1) (al p.1 w) p.2.2.2.2) →
      L[k]? = some (n + 1, ps) → Rel L (n + 1) w (k + 1)
theorem Rel.more {L L' : List LotK} (g : ∀ (k : Nat) (x : LotK), L[k]? = some x → L'[k]? = some x) {n : Nat} {w : Wl} {i : Nat} (h : Rel L n w i) : Rel L' n w i := by
  induction h with
  | zero w => exact .zero w
  | succ ps m _ _ _ _ e h1 h2 h3 h4 => exact .succ ps m h1 h2 h3 h4 (g _ _ e)
theorem pairs_eq {α β : Type} : ∀ {l m : List (α × β)}, l.map (·.1) = m.map (·.1) → (∀ p ∈ l, ∀ q ∈ m, p.1 = q.1 → p = q) → l = m
  | [], [], _, _ => rfl
  | [], _ :: _, h, _ => by cases h
  | _ :: _, [], h, _ => by cases h
  | p :: l, q :: m, h, k => by
    rw [List.map_cons, List.map_cons] at h
    obtain ⟨h1, h2⟩ := List.cons.inj h
    rw [k p List.mem_cons_self q List.mem_cons_self h1, pairs_eq h2 fun x hx y hy => k x (List.mem_cons_of_mem _ hx) y (List.mem_cons_of_mem _ hy)]
theorem rel_iff {L : List LotK} (nd : L.Nodup) {n : Nat} {u : Wl} {i : Nat} (h : Rel L n u i) : ∀ {v : Wl} {j : Nat}, Rel L n v j → (i = j ↔ Alike n u v) := by
  induction h with
  | zero w =>
    intro v j h'
    cases h'
    exact ⟨fun _ => rfl, fun _ => rfl⟩
  | @succ n k u ps m r1 r2 r3 r4 e h1 h2 h3 h4 =>
    intro v j h'
    cases h' with
    | @succ _ k' _ ps' m' s1 s2 s3 s4 e' =>
      rw [alike_succ]
      constructor
      · intro eq
        obtain rfl : k = k' := Nat.succ.inj eq
        rw [e] at e'
        have pe := (Prod.mk.inj (Option.some.inj e')).2
        subst pe
        refine ⟨fun c => by rw [← mem_sgn, ← m, m', mem_sgn], fun c hc => ?_⟩
        have hcs := mem_sgn.mpr hc
        rw [← m] at hcs
        obtain ⟨p, hp, rfl⟩ := List.mem_map.mp hcs
        exact ⟨(h1 p hp (s1 p hp)).mp rfl, (h2 p hp (s2 p hp)).mp rfl, (h3 p hp (s3 p hp)).mp rfl, (h4 p hp (s4 p hp)).mp rfl⟩
      · rintro ⟨mem, alk⟩
        have pe : ps = ps' := pairs_eq (m.trans ((sgn_eq mem).trans m'.symm)) fun p hp q hq c => by
          have hu : p.1 ∈ u := by
            rw [← mem_sgn, ← m]
            exact List.mem_map.mpr ⟨p, hp, rfl⟩
          obtain ⟨a1, a2, a3, a4⟩ := alk p.1 hu
          rw [c] at a1 a2 a3 a4
          have k1 := h1 p hp (v := bf q.1 v) (s1 q hq)
          have k2 := h2 p hp (v := af q.1 v) (s2 q hq)
          have k3 := h3 p hp (v := bl q.1 v) (s3 q hq)
          have k4 := h4 p hp (v := al q.1 v) (s4 q hq)
          rw [c] at k1 k2 k3 k4
          exact Prod.ext c (Prod.ext (k1.mpr a1) (Prod.ext (k2.mpr a2) (Prod.ext (k3.mpr a3) (k4.mpr a4))))
        rw [pe] at e
        have hk := (List.getElem?_eq_some_iff.mp e).1
        exact congrArg (· + 1) ((List.getElem?_inj hk nd).mp (e.trans e'.symm))
/-! what is cut out of words -/
def Fct (U : List Wl) : Prop := ∀ u ∈ U, ∀ c ∈ u, bf c u ∈ U ∧ af c u ∈ U ∧ bl c u ∈ U ∧ al c u ∈ U
def facts1 (w : Wl) : List Wl := (List.range (w.length + 1)).flatMap fun a => (List.range (w.length + 1)).map fun b => (w.drop a).take b
theorem facts_mem {w x : Wl} : x ∈ facts1 w ↔ ∃ a b, a ≤ w.length ∧ b ≤ w.length ∧ x = (w.drop a).take b := by
  unfold facts1
  rw [List.mem_flatMap]
  constructor
  · rintro ⟨a, ha, h⟩
    obtain ⟨b, hb, e⟩ := List.mem_map.mp h
    exact ⟨a, b, Nat.le_of_lt_succ (List.mem_range.mp ha), Nat.le_of_lt_succ (List.mem_range.mp hb), e.symm⟩
  · rintro ⟨a, b, ha, hb, e⟩
    exact ⟨a, List.mem_range.mpr (by omega), List.mem_map.mpr ⟨b, List.mem_range.mpr (by omega), e.symm⟩⟩
theorem facts_len (w : Wl) : (facts1 w).length = (w.length + 1) * (w.length + 1) := by
  unfold facts1
  rw [List.length_flatMap]
  simp only [List.length_map, List.length_range]
  generalize w.length + 1 = n
  have : ∀ (l : List Nat) (k : Nat), (l.map fun _ => k).sum = l.length * k := by
    intro l k
    induction l with
    | nil => simp
    | cons a l ih => rw [List.map_cons, List.sum_cons, ih, List.length_cons, Nat.succ_mul, Nat.add_comm]
  rw [this, List.length_range]
/-- what is ahead and what is behind, as cuts -/
theorem cut_two {x p r : Wl} {c : Nat} (e : x = p ++ c :: r) : p = x.take p.length ∧ r = x.drop (p.length + 1) := by
  subst e
  constructor
  · rw [List.take_left]
  · rw [← List.drop_drop, List.drop_left]
    rfl
/-- of a piece of a word each beginning and each end is a piece -/
theorem facts_cut {w x : Wl} (h : x ∈ facts1 w) (i : Nat) : x.take i ∈ facts1 w ∧ x.drop i ∈ facts1 w := by
  obtain ⟨a, b, ha, hb, rfl⟩ := facts_mem.mp h
  constructor
  · rw [List.take_take]
    exact facts_mem.mpr ⟨a, min i b, ha, by omega, rfl⟩
  · rw [List.drop_take, List.drop_drop]
    by_cases c : a + i ≤ w.length
    · exact facts_mem.mpr ⟨a + i, b - i, c, by omega, by rw [Nat.add_comm]⟩
    · refine facts_mem.mpr ⟨w.length, 0, Nat.le_refl _, Nat.zero_le _, ?_⟩
      rw [List.drop_eq_nil_of_le (by omega), List.take_nil]
      simp
theorem facts_fct (w : Wl) : Fct (facts1 w) := fun x hx c hc => by
  obtain ⟨b1, b2⟩ := cut_two (bf_split hc)
  obtain ⟨b3, b4⟩ := cut_two (bl_split hc)
  rw [b1, b2, b3, b4]
  exact ⟨(facts_cut hx _).1, (facts_cut hx _).2, (facts_cut hx _).1, (facts_cut hx _).2⟩
theorem self_facts (w : Wl) : w ∈ facts1 w := facts_mem.mpr ⟨0, w.length, Nat.zero_le _, Nat.le_refl _, by simp⟩
theorem fct_app {U V : List Wl} (h : Fct U) (k : Fct V) : Fct (U ++ V) := fun x hx c hc => by
  rcases List.mem_append.mp hx with m | m
  · obtain ⟨h1, h2, h3, h4⟩ := h x m c hc
    exact ⟨List.mem_append_left _ h1, List.mem_append_left _ h2, List.mem_append_left _ h3, List.mem_append_left _ h4⟩
  · obtain ⟨h1, h2, h3, h4⟩ := k x m c hc
    exact ⟨List.mem_append_right _ h1, List.mem_append_right _ h2, List.mem_append_right _ h3, List.mem_append_right _ h4⟩
end SWL
set_option Elab.async false
set_option linter.all false
set_option maxRecDepth 100000
set_option maxHeartbeats 4000000
namespace SWL
open PySem PySem.Spec PyProof.Rows L2 LamX
def topS (i : Nat) : Stmt := PySem.Challenge.pw_swinglogic_k36_whole_words_alike_by_turn.main.body.getD i (.Pass ⟨0, 0, 0, 0⟩)
abbrev sIsNum : Stmt := topS 13
abbrev sIsL : Stmt := topS 14
abbrev sNeedL : Stmt := topS 15
abbrev sIsW : Stmt := topS 16
abbrev sNeedW : Stmt := topS 17
abbrev sInit : Stmt := inClass (topS 20) 0
abbrev sNumber : Stmt := inClass (topS 20) 1
abbrev sNeedT : Stmt := topS 21
abbrev sAlike : Stmt := topS 22
abbrev sBegun : Stmt := topS 24
abbrev sMixed : Stmt := topS 25
abbrev sDraw : Stmt := topS 26
abbrev sPick : Stmt := topS 27
abbrev sPlain : Stmt := topS 28
abbrev sIs : Stmt := topS 29
abbrev sWord : Stmt := topS 30
abbrev sSomeW : Stmt := topS 31
abbrev sKey : Stmt := topS 32
abbrev sSomeL : Stmt := topS 33
abbrev sPair : Stmt := topS 34
abbrev sLaw : Stmt := topS 35
/-- the module's names: what is built in, and the constants -/
structure Blt (mg : Str → Option Value) : Prop where
  isi : mg "isinstance" = none
  str : mg "str" = none
  int : mg "int" = none
  list : mg "list" = none
  tuple : mg "tuple" = none
  dict : mg "dict" = none
  len : mg "len" = none
  all : mg "all" = none
  any : mg "any" = none
  zip : mg "zip" = none
  sorted : mg "sorted" = none
  abs : mg "abs" = none
  range : mg "range" = none
  min : mg "min" = none
  repr : mg "repr" = none
  bool : mg "bool" = none
  set : mg "set" = none
  small : ∃ t, mg "SMALL" = some (.str "abcdefghijklmnopqrstuvwxyz" t)
  mostL : ∃ t, mg "MOST_LETTERS" = some (.int 4 t)
  mostT : ∃ t, mg "MOST_N" = some (.int 4 t)
def NotStr (K : PySem.W.Frag) (H : Hp) (x : V) : Prop := ∃ t : String, TyX K H x (.type t) ∧ kitB t "str" = some false
def smallS : Str := "abcdefghijklmnopqrstuvwxyz"
def sign0 : V → Nat
  | .str z => z.cps.toList.headD 0
  | _ => 0
def inSm (v : V) : V := .bl (decide (sign0 v ∈ smallS.cps.toList))
theorem lt_one (c d : Nat) : decide (([c] : List Nat) < [d]) = decide (c < d) := by
  refine decide_eq_decide.mpr ?_
  constructor
  · intro h
    cases h with
    | rel h => exact h
    | cons h => cases h
  · intro h
    exact .rel h
def rises : List Nat → Bool
  | a :: b :: r => decide (a < b) && rises (b :: r)
  | _ => true
theorem rises_zip : ∀ l : List Nat, ((l.zip (l.drop 1)).map fun p => decide (p.1 < p.2)).all id = rises l
  | [] => rfl
  | [a] => rfl
  | a :: b :: r => by
    have ih := rises_zip (b :: r)
    show (decide (a < b) && (((b :: r).zip ((b :: r).drop 1)).map fun p => decide (p.1 < p.2)).all id) = (decide (a < b) && rises (b :: r))
    rw [ih]
theorem cut_len (z : Str) : z.cps.toList.length = z.length := Array.length_toList
theorem cut1 (z : Str) : (cutS z (some 1) none).cps.toList = z.cps.toList.drop 1 := by
  have h1 : HT.sIx z.length 0 (some 1) = min 1 z.length := HT.sIx_nat _ _ 1
  have h2 : HT.sIx z.length z.length none = z.length := rfl
  unfold cutS
  rw [h1, h2]
  show (z.cps.toList.drop (min 1 z.length)).take (z.length - min 1 z.length) = _
  have e : z.cps.toList.drop (min 1 z.length) = z.cps.toList.drop 1 := by
    by_cases h : 1 ≤ z.length
    · rw [Nat.min_eq_left h]
    · have : z.length = 0 := by omega
      have hz : z.cps.toList = [] := List.length_eq_zero_iff.mp (by rw [cut_len]; exact this)
      rw [hz]
      simp
  rw [e]
  refine List.take_of_length_le ?_
  rw [List.length_drop, cut_len]
  omega
def okLetters (z : Str) : Bool := decide (1 ≤ z.length ∧ z.length ≤ 4) && (z.cps.toList.all (fun c => decide (c ∈ smallS.cps.toList)) && rises z.cps.toList)
def spIsL (K : PySem.W.Frag) : Sp := fun vs H Q _ => ∃ x, vs = [x] ∧ ((∃ z, x = .str z ∧ z.length ≤ sizeLine ∧ ∀ H', Grows H H' → Q (.bl (okLetters z)) H') ∨ (NotStr K H x ∧ Q (.bl false) H))
theorem if_neg_of {c : Prop} [Decidable c] {A B : Prop} (hc : ¬ c) (h : B) : if c then A else B := by
  rw [if_neg hc]
  exact h
theorem if_pos_of {c : Prop} [Decidable c] {A B : Prop} (hc : c) (h : A) : if c then A else B := by
  rw [if_pos hc]
  exact h
section
variable {P : Program} {w : World} {K : PySem.W.Frag} {mg : Str → Option Value} {base : Heap}
theorem scIsL : FnScope ["thing", "sign", "one", "other"] ["thing"] (defScope sIsL) := ⟨rfl, rfl, rfl, by decide +kernel, rfl, by decide +kernel, by decide +kernel⟩
theorem ok_isL {f : Addr} {fd : FuncData} (F : L2.Fun K "is_letters" "is_letters" sIsL f fd) (B : Blt mg) : FnOk P w K mg base CX0 2 f fd ["thing"] (spIsL K) := by
  refine F.ok scIsL (fun vs H Q E h => ?_) (fun cdv A outer s H vs Q E hr h => ⟨_,
    pss_cons (ps_if (pw_or (pt_not (pt_truth (pe_callB call_isi (by rfl) B.isi (by decide +kernel) (pa_cons (pv 0) (pa_cons (pe_bltn (u := .type "str") (v := .ty "str") (by rfl) B.str (by decide +kernel) rfl) pa_nil))) (by intro _; rfl)))
      (pw_or1 (pt_not (pt_chain op_le op_le pe_int (pe_callB call_len_str (by rfl) B.len PySem.boot_len (pa_cons (pv 0) pa_nil)) (pe_glob (v := .int 4) (by rfl) B.mostL.choose_spec ⟨_, rfl⟩))))).pt (pss_one (ps_ret pe_bl)) pss_nil)
    (pss_one (ps_ret (pe_and
      (pe_callB (cr_all rfl) (by rfl) B.all (by decide +kernel) (pa_cons (pe_lc (own := [("sign", 1)]) (g := gName 1) (tt := tYes) rfl scIsL.nd (pi_str (pv 0)) (blkOk_by (N := ["thing", "sign", "one", "other"]) (sc := defScope sIsL) (by decide +kernel)) (fun _ _ _ _ _ => pg_name (i := 1) scIsL.nd rfl (Or.inl rfl)) (fun _ _ _ _ _ => pts_nil)
        (fun _ _ _ _ _ => pe_cmpR op_inS (pv 1) (pe_glob (v := .str smallS) (by rfl) B.small.choose_spec ⟨_, rfl⟩) rfl)) pa_nil))
      (pe_one (pe_callB (cr_all rfl) (by rfl) B.all (by decide +kernel) (pa_cons (pe_lc (own := [("one", 2), ("other", 3)]) (g := gTup K 2 (gCons (gName 2) (gCons (gName 3) gNil))) (tt := tYes) rfl scIsL.nd (pi_zipS (by rfl) B.zip (pa_cons (pv 0) (pa_cons (pe_slice sl_str (pv 0) (po_some pe_int) po_none) pa_nil))) (blkOk_by (N := ["thing", "sign", "one", "other"]) (sc := defScope sIsL) (by decide +kernel)) (fun _ _ _ _ _ => pg_tup rfl (pgs_cons (pg_name (i := 2) scIsL.nd rfl (Or.inl rfl)) (pgs_cons (pg_name (i := 3) scIsL.nd rfl (Or.inl rfl)) pgs_nil))) (fun _ _ _ _ _ => pts_nil)
        (fun _ _ _ _ _ => pe_cmpR op_lt_str (pv 2) (pv 3) rfl)) pa_nil)))))), ?_⟩)
  · obtain ⟨x, rfl, _⟩ := h
    rfl
  · obtain ⟨x, rfl, h⟩ := h
    rcases h with ⟨z, rfl, hz, q⟩ | ⟨⟨t, ty, hk⟩, q⟩
    · refine ⟨_, rfl, .str z, .ty "str", .type "str", .type "str", true, rfl, .ty "str", .base (.str z), kit_ty (by decide +kernel), true, rfl, ?_⟩
      refine if_neg_of (by decide) ?_
      refine ⟨_, rfl, z, rfl, hz, _, _, rfl, rfl, decide ((1 : Int) ≤ z.length), rfl, ?_⟩
      by_cases c1 : (1 : Int) ≤ z.length
      · refine if_pos_of (decide_eq_true c1) ⟨_, _, rfl, rfl, decide ((z.length : Int) ≤ 4), rfl, ?_⟩
        by_cases c2 : (z.length : Int) ≤ 4
        · refine if_neg_of (by rw [decide_eq_true c2]; decide) ?_
          refine ⟨_, rfl, z, rfl, fun D nD => comp (xs := signsV z) (walk_signs z) (fun _ => true) inSm nD (fun _ _ => trivial) (by rw [signs_len]; exact hz) (fun x H k _ g hk => hk H (Grows.refl H)) (fun x H Q hx _ g hq => ?_) (fun H2 g2 hD => ?_)⟩
          · obtain ⟨c, hc, rfl⟩ := signs_mem hx
            exact ⟨_, rfl, c, smallS, rfl, rfl, hq _ (Grows.refl _)⟩
          · rw [filter_yes] at hD
            refine ⟨D, z.cps.toList.map fun c => decide (c ∈ smallS.cps.toList), rfl, .inl (.inl (hD.trans ?_)), _, rfl, ?_⟩
            · unfold signsV
              rw [List.map_map, List.map_map]
              rfl
            · have e1 : (z.cps.toList.map fun c => decide (c ∈ smallS.cps.toList)).all id = z.cps.toList.all fun c => decide (c ∈ smallS.cps.toList) := by rw [List.all_map]; rfl
              rw [e1]
              have el : decide (1 ≤ z.length ∧ z.length ≤ 4) = true := decide_eq_true (by omega)
              cases e2 : z.cps.toList.all fun c => decide (c ∈ smallS.cps.toList) with
              | false =>
                refine if_neg_of (by decide) ?_
                have e3 : okLetters z = false := by unfold okLetters; rw [el, e2]; rfl
                rw [e3] at q
                exact q H2 g2
              | true =>
                refine if_pos_of rfl ?_
                refine ⟨_, rfl, _, rfl, 1, rfl, z, rfl, hz, z, _, rfl, fun D2 nD2 => compZ (fun p => V.bl (decide (p.1 < p.2))) nD2 (by decide) hz (fun c d H Q _ _ hq => ?_) fun H3 g3 hD3 => ?_⟩
                · refine ⟨_, rfl, _, rfl, _, _, rfl, rfl, ?_⟩
                  rw [show decide ((⟨#[c]⟩ : Str).cps.toList < (⟨#[d]⟩ : Str).cps.toList) = decide (c < d) from lt_one c d]
                  exact hq H (Grows.refl H)
                · rw [cut1] at hD3
                  refine ⟨D2, (z.cps.toList.zip (z.cps.toList.drop 1)).map fun p => decide (p.1 < p.2), rfl, .inl (.inl (hD3.trans ?_)), ?_⟩
                  · rw [List.map_map]
                    rfl
                  · rw [rises_zip]
                    have e3 : okLetters z = rises z.cps.toList := by unfold okLetters; rw [el, e2, Bool.true_and, Bool.true_and]
                    rw [e3] at q
                    exact q H3 (g2.trans g3)
        · refine if_pos_of (by rw [decide_eq_false c2]; decide) ?_
          have e : okLetters z = false := by
            unfold okLetters
            rw [decide_eq_false (by omega)]
            rfl
          rw [e] at q
          exact q H (Grows.refl H)
      · refine if_neg_of (by rw [decide_eq_false c1]; decide) ⟨false, rfl, if_pos_of (by decide) ?_⟩
        have e : okLetters z = false := by
          unfold okLetters
          rw [decide_eq_false (by omega)]
          rfl
        rw [e] at q
        exact q H (Grows.refl H)
    · refine ⟨_, rfl, x, .ty "str", .type t, .type "str", false, rfl, .ty "str", ty, kit_ty hk, false, rfl, ?_⟩
      exact q
end
end SWL
set_option Elab.async false
set_option linter.all false
set_option maxRecDepth 100000
set_option maxHeartbeats 4000000
namespace SWL
open PySem PySem.Spec PyProof.Rows L2 LamX
abbrev veB : List Value := [.type "ValueError", .type "Exception", .type "BaseException", .type "object"]
/-- an exception class of the text -/
structure ErrC (K : PySem.W.Frag) (mg : Str → Option Value) (x : Str) (C CS : Addr) : Prop where
  gC : mg x = some (.ref C)
  xC : PySem.W.excIn K C veB "ValueError.__new__" = true
  kC : PySem.W.keepIn K (.ref C) = true
  bC : PySem.W.subIn K (.ref C) (.type "BaseException") = some true
  tC : PySem.W.typeIn K (.ref C) = some (.type "type")
  eC : PySem.W.exmOne K (.ref C) (.ref CS) = some true
/-- a def of the text, by its name -/
structure Def (mg : Str → Option Value) (K : PySem.W.Frag) (x : Str) (f : Addr) (fd : FuncData) (ps : List Str) : Prop where
  g : mg x = some (.ref f)
  k : PySem.W.keepIn K (.ref f) = true
  b : L2.Binds K fd ps []
def spNeedL (K : PySem.W.Frag) (CN : Addr) : Sp := fun vs H Q E => ∃ x, vs = [x] ∧ ((∃ z, x = .str z ∧ z.length ≤ sizeLine ∧ ∀ H', Grows H H' → (okLetters z = true → Q .non H') ∧ (okLetters z = false → E (.ref CN) none H')) ∨ (NotStr K H x ∧ E (.ref CN) none H))
def okWord (ls z : Str) (m : Int) : Bool := decide ((z.length : Int) ≤ m) && z.cps.toList.all fun c => decide (c ∈ ls.cps.toList)
def inLs (ls : Str) (v : V) : V := .bl (decide (sign0 v ∈ ls.cps.toList))
def spIsW (K : PySem.W.Frag) : Sp := fun vs H Q _ => ∃ ls x m, vs = [.str ls, x, .int m] ∧ ((∃ z, x = .str z ∧ z.length ≤ sizeLine ∧ ∀ H', Grows H H' → Q (.bl (okWord ls z m)) H') ∨ (NotStr K H x ∧ Q (.bl false) H))
def spNeedW (K : PySem.W.Frag) (CW : Addr) : Sp := fun vs H Q E => ∃ ls x m, vs = [.str ls, x, .int m] ∧ ((∃ z, x = .str z ∧ z.length ≤ sizeLine ∧ ∀ H', Grows H H' → (okWord ls z m = true → Q .non H') ∧ (okWord ls z m = false → E (.ref CW) none H')) ∨ (NotStr K H x ∧ E (.ref CW) none H))
theorem passE0 {P : Program} {w : World} {X : Cx} (hP : X.prog = P) (hw : X.w = w) : Passes (L2.CX P w) X E0 := fun pins σ H s e s' I c => by
  obtain ⟨_, _, _, _, _, _, _, _, _, _, _, _, z⟩ := c
  exact z.elim
theorem pi_or {X : Cx} {tg it : Expr} {w1 w2 : TI} (h1 : PI X tg it w1) (h2 : PI X tg it w2) : PI X tg it (fun σ H R => w1 σ H R ∨ w2 σ H R) :=
  ⟨fun pins s σ H R I h => h.elim (h1.run pins s σ H R I) (h2.run pins s σ H R I)⟩
theorem mem_take_len {α : Type} {l : List α} {n : Nat} : (l.take n).length ≤ l.length := by rw [List.length_take]; omega
/-- a def whose last parameter, of a default, is 20000 -/
structure DefW (mg : Str → Option Value) (K : PySem.W.Frag) (x : Str) (f : Addr) (fd : FuncData) (ps : List Str) : Prop where
  g : mg x = some (.ref f)
  k : PySem.W.keepIn K (.ref f) = true
  b : ∃ ds, Vals [V.int 20000] ds ∧ L2.Binds K fd ps ds
theorem tyx_grows {K : PySem.W.Frag} {H H' : Hp} (g : Grows H H') {x : V} {t : Value} (h : TyX K H x t) : TyX K H' x t := by
  cases h with
  | base b =>
    cases b with
    | non => exact .base .non
    | bl y => exact .base (.bl y)
    | int i => exact .base (.int i)
    | str z => exact .base (.str z)
    | flt z => exact .base (.flt z)
    | lst e => exact .base (.lst (g _ _ e))
    | frz e => exact .base (.frz (g _ _ e))
    | tup e => exact .base (.tup (g _ _ e))
    | dK e => exact .base (.dK (g _ _ e))
    | dT e => exact .base (.dT (g _ _ e))
    | ins e cl ha hn ht hm => exact .base (.ins (g _ _ e) cl ha hn ht hm)
  | byt b => exact .byt b
  | set e => exact .set (g _ _ e)
  | kList e c => exact .kList e c
  | kTuple e c => exact .kTuple e c
  | kDict e c => exact .kDict e c
  | fTuple e => exact .fTuple (g _ _ e)
  | fDict e => exact .fDict (g _ _ e)
theorem NotStr.grows {K : PySem.W.Frag} {H H' : Hp} (g : Grows H H') {x : V} (h : NotStr K H x) : NotStr K H' x := by
  obtain ⟨t, h1, h2⟩ := h
  exact ⟨t, tyx_grows g h1, h2⟩
theorem ty_list {K : PySem.W.Frag} {H : Hp} {a : Addr} {xs : List V} (h : SqL K H a xs) : TyX K H (.ref a) (.type "list") := by
  rcases h with (h | ⟨o, h⟩) | ⟨o, its, n, h1, h2, _⟩
  · exact .base (.lst h)
  · exact .base (.frz h)
  · exact .kList h1 h2
theorem ty_tuple {K : PySem.W.Frag} {H : Hp} {a : Addr} {xs : List V} (h : SqT K H a xs) : TyX K H (.ref a) (.type "tuple") := by
  rcases h with (h | ⟨o, h⟩) | ⟨o, its, n, h1, h2, _⟩
  · exact .base (.tup h)
  · exact .fTuple h
  · exact .kTuple h1 h2
theorem ty_sq {K : PySem.W.Frag} {H : Hp} {a : Addr} {xs : List V} (h : Sq K H a xs) : ∃ t : String, TyX K H (.ref a) (.type t) ∧ PySem.W.kitAny K (.type t) [.type "list", .type "tuple"] = some true := by
  rcases h with h | h
  · exact ⟨"list", ty_list h, kitAny_cons (b := true) (kit_ty (by decide +kernel)) (fun z => by cases z) fun _ => rfl⟩
  · exact ⟨"tuple", ty_tuple h, kitAny_cons (b := false) (kit_ty (by decide +kernel)) (fun _ => kitAny_cons (b := true) (kit_ty (by decide +kernel)) (fun z => by cases z) fun _ => rfl) fun z => by cases z⟩
def NotSeq (K : PySem.W.Frag) (H : Hp) (x : V) : Prop := ∃ t : String, TyX K H x (.type t) ∧ kitB t "list" = some false ∧ kitB t "tuple" = some false
theorem NotSeq.grows {K : PySem.W.Frag} {H H' : Hp} (g : Grows H H') {x : V} (h : NotSeq K H x) : NotSeq K H' x := by
  obtain ⟨t, h1, h2⟩ := h
  exact ⟨t, tyx_grows g h1, h2⟩
theorem NotSeq.kit {K : PySem.W.Frag} {t : String} (h1 : kitB t "list" = some false) (h2 : kitB t "tuple" = some false) : PySem.W.kitAny K (.type t) [.type "list", .type "tuple"] = some false :=
  kitAny_cons (b := false) (kit_ty h1) (fun _ => kitAny_cons (b := false) (kit_ty h2) (fun _ => kitAny_nil) fun z => by cases z) fun z => by cases z
section
variable {P : Program} {w : World} {K : PySem.W.Frag} {mg : Str → Option Value} {base : Heap}
theorem scNeedL : FnScope ["thing"] ["thing"] (defScope sNeedL) := ⟨rfl, rfl, rfl, by decide +kernel, rfl, by decide +kernel, by decide +kernel⟩
theorem ok_needL {f f1 CN CS : Addr} {fd fd1 : FuncData} (F : L2.Fun K "need_letters" "need_letters" sNeedL f fd) (G : FnOk P w K mg base CX0 2 f1 fd1 ["thing"] (spIsL K)) (D : Def mg K "is_letters" f1 fd1 ["thing"]) (EN : ErrC K mg "NoLetters" CN CS) :
    FnOk P w K mg base (L2.CX P w) 3 f fd ["thing"] (spNeedL K CN) := by
  refine F.okX scNeedL (fun vs H Q E h => ?_) (fun cdv A outer s H vs Q E hr h => ⟨_,
    pss_one (ps_if (pt_not (pt_truth (pe_call G hr (by rfl) D.g D.k D.b .nil pass0 (pa_cons (pv 0) pa_nil)) (by intro _; rfl)))
      (pss_one (ps_raise rfl (takes_of rfl rfl rfl rfl) (pmk_own PySem.F.excBase_ValueError EN.xC EN.gC EN.kC (raises_own EN.bC EN.tC) rfl))) pss_nil), ?_⟩)
  · obtain ⟨x, rfl, _⟩ := h
    rfl
  · obtain ⟨x, rfl, h⟩ := h
    refine ⟨_, rfl, x, rfl, ?_⟩
    rcases h with ⟨z, rfl, hz, q⟩ | ⟨n, q⟩
    · refine .inl ⟨z, rfl, hz, fun H' g => ?_⟩
      obtain ⟨q1, q2⟩ := q H' g
      cases e : okLetters z with
      | true => exact ⟨true, rfl, if_neg_of (by decide) (q1 e)⟩
      | false => exact ⟨false, rfl, if_pos_of (by decide) (q2 e)⟩
    · exact .inr ⟨n, false, rfl, if_pos_of (by decide) q⟩
theorem scIsW : FnScope ["letters", "thing", "most", "sign"] ["letters", "thing", "most"] (defScope sIsW) := ⟨rfl, rfl, rfl, by decide +kernel, rfl, by decide +kernel, by decide +kernel⟩
theorem ok_isW {f : Addr} {fd : FuncData} (F : L2.Fun K "is_word_to" "is_word_to" sIsW f fd) (B : Blt mg) : FnOk P w K mg base CX0 2 f fd ["letters", "thing", "most"] (spIsW K) := by
  refine F.ok scIsW (fun vs H Q E h => ?_) (fun cdv A outer s H vs Q E hr h => ⟨_,
    pss_one (ps_ret (pe_and (pe_callB call_isi (by rfl) B.isi (by decide +kernel) (pa_cons (pv 1) (pa_cons (pe_bltn (u := .type "str") (v := .ty "str") (by rfl) B.str (by decide +kernel) rfl) pa_nil)))
      (pe_and (pe_cmpR op_le (pe_callB call_len_str (by rfl) B.len PySem.boot_len (pa_cons (pv 1) pa_nil)) (pv 2) rfl)
      (pe_one (pe_callB (cr_all rfl) (by rfl) B.all (by decide +kernel) (pa_cons (pe_lc (own := [("sign", 3)]) (g := gName 3) (tt := tYes) rfl scIsW.nd (pi_str (pv 1)) (blkOk_by (N := ["letters", "thing", "most", "sign"]) (sc := defScope sIsW) (by decide +kernel)) (fun _ _ _ _ _ => pg_name (i := 3) scIsW.nd rfl (Or.inl rfl)) (fun _ _ _ _ _ => pts_nil)
        (fun _ _ _ _ _ => pe_cmpR op_inS (pv 3) (pv 0) rfl)) pa_nil)))))), ?_⟩)
  · obtain ⟨ls, x, m, rfl, _⟩ := h
    rfl
  · obtain ⟨ls, x, m, rfl, h⟩ := h
    rcases h with ⟨z, rfl, hz, q⟩ | ⟨⟨t, ty, hk⟩, q⟩
    · refine ⟨_, rfl, .str z, .ty "str", .type "str", .type "str", true, rfl, .ty "str", .base (.str z), kit_ty (by decide +kernel), true, rfl, if_pos_of rfl ?_⟩
      refine ⟨_, rfl, z, rfl, hz, _, rfl, _, _, rfl, rfl, decide ((z.length : Int) ≤ m), rfl, ?_⟩
      by_cases c1 : (z.length : Int) ≤ m
      · refine if_pos_of (decide_eq_true c1) ?_
        refine ⟨_, rfl, z, rfl, fun D nD => comp (xs := signsV z) (walk_signs z) (fun _ => true) (inLs ls) nD (fun _ _ => trivial) (by rw [signs_len]; exact hz) (fun x H k _ g hk => hk H (Grows.refl H)) (fun x H Q hx _ g hq => ?_) (fun H2 g2 hD => ?_)⟩
        · obtain ⟨c, hc, rfl⟩ := signs_mem hx
          exact ⟨_, rfl, _, rfl, c, ls, rfl, rfl, hq _ (Grows.refl _)⟩
        · rw [filter_yes] at hD
          refine ⟨D, z.cps.toList.map fun c => decide (c ∈ ls.cps.toList), rfl, .inl (.inl (hD.trans ?_)), ?_⟩
          · unfold signsV
            rw [List.map_map, List.map_map]
            rfl
          · have e1 : (z.cps.toList.map fun c => decide (c ∈ ls.cps.toList)).all id = okWord ls z m := by
              unfold okWord
              rw [decide_eq_true c1, List.all_map, Bool.true_and]
              rfl
            rw [e1]
            exact q H2 g2
      · refine if_neg_of (by rw [decide_eq_false c1]; decide) ?_
        have e : okWord ls z m = false := by
          unfold okWord
          rw [decide_eq_false c1]
          rfl
        rw [e] at q
        exact q H (Grows.refl H)
    · exact ⟨_, rfl, x, .ty "str", .type t, .type "str", false, rfl, .ty "str", ty, kit_ty hk, false, rfl, if_neg_of (by decide) q⟩
theorem scNeedW : FnScope ["letters", "thing", "most"] ["letters", "thing", "most"] (defScope sNeedW) := ⟨rfl, rfl, rfl, by decide +kernel, rfl, by decide +kernel, by decide +kernel⟩
theorem ok_needW {f f1 CW CS : Addr} {fd fd1 : FuncData} {kws : List (Str × V)} (F : FunD K "need_word" "need_word" (defArgs sNeedW) (defBody sNeedW) (defScope sNeedW) [] kws f fd) (G : FnOk P w K mg base CX0 2 f1 fd1 ["letters", "thing", "most"] (spIsW K)) (D : Def mg K "is_word_to" f1 fd1 ["letters", "thing", "most"]) (EN : ErrC K mg "NoWord" CW CS) :
    FnOk P w K mg base (L2.CX P w) 3 f fd ["letters", "thing", "most"] (spNeedW K CW) := by
  refine F.ok (CX := L2.CX P w) scNeedW (fun vs H Q E h => ?_) (fun cdv A outer s H vs Q E hr h => ⟨_,
    pss_one (ps_if (pt_not (pt_truth (pe_call G hr (by rfl) D.g D.k D.b .nil pass0 (pa_cons (pv 0) (pa_cons (pv 1) (pa_cons (pv 2) pa_nil)))) (by intro _; rfl)))
      (pss_one (ps_raise rfl (takes_of rfl rfl rfl rfl) (pmk_own PySem.F.excBase_ValueError EN.xC EN.gC EN.kC (raises_own EN.bC EN.tC) rfl))) pss_nil), ?_⟩)
  · obtain ⟨ls, x, m, rfl, _⟩ := h
    rfl
  · obtain ⟨ls, x, m, rfl, h⟩ := h
    refine ⟨_, rfl, _, rfl, _, rfl, ls, x, m, rfl, ?_⟩
    rcases h with ⟨z, rfl, hz, q⟩ | ⟨n, q⟩
    · refine .inl ⟨z, rfl, hz, fun H' g => ?_⟩
      obtain ⟨q1, q2⟩ := q H' g
      cases e : okWord ls z m with
      | true => exact ⟨true, rfl, if_neg_of (by decide) (q1 e)⟩
      | false => exact ⟨false, rfl, if_pos_of (by decide) (q2 e)⟩
    · exact .inr ⟨n, false, rfl, if_pos_of (by decide) q⟩
end
end SWL
set_option Elab.async false
set_option linter.all false
set_option maxRecDepth 100000
set_option maxHeartbeats 4000000
namespace SWL
open PySem PySem.Spec PyProof.Rows L2 LamX
def stD (g c : Addr) (r t : Int) : List (Key × V) := [(.inr "great", .ref g), (.inr "cells", .ref c), (.inr "rest", .int r), (.inr "turn", .int t)]
theorem st_great (g c : Addr) (r t : Int) : valV (stD g c r t) (.inr "great") = some (.ref g) := rfl
theorem st_cells (g c : Addr) (r t : Int) : valV (stD g c r t) (.inr "cells") = some (.ref c) := rfl
theorem st_rest (g c : Addr) (r t : Int) : valV (stD g c r t) (.inr "rest") = some (.int r) := rfl
theorem st_turn (g c : Addr) (r t : Int) : valV (stD g c r t) (.inr "turn") = some (.int t) := rfl
theorem st_putR (g c : Addr) (r t r' : Int) : putK (stD g c r t) (.inr "rest") (.int r') = stD g c r' t := rfl
theorem st_putT (g c : Addr) (r t t' : Int) : putK (stD g c r t) (.inr "turn") (.int t') = stD g c r t' := rfl
theorem st_new (g c : Addr) : mergeK [] (stD g c 0 0) = stD g c 0 0 := rfl
/-- the state of the draws: at most n blends so far -/
structure SAt (H : Hp) (a g c : Addr) (cs : List Int) (n : Nat) : Prop where
  ex : ∃ (gs : List Int) (r t : Int), H a = some (.dK (stD g c r t)) ∧ H g = some (.lst (gs.map V.int)) ∧ H c = some (.lst (cs.map V.int)) ∧ g ≠ c ∧ (∀ z ∈ gs, 0 ≤ z) ∧ 0 ≤ r ∧ 0 ≤ t ∧ t ≤ n
/-- all stays but the state and its great cells -/
def But (H H' : Hp) (a g : Addr) : Prop := ∀ b o, H b = some o → b ≠ a → b ≠ g → H' b = some o
theorem But.refl (H : Hp) (a g : Addr) : But H H a g := fun _ _ h _ _ => h
theorem But.trans {H H1 H2 : Hp} {a g : Addr} (x : But H H1 a g) (y : But H1 H2 a g) : But H H2 a g := fun b o h h1 h2 => y b o (x b o h h1 h2) h1 h2
theorem But.of {H H' : Hp} {a g : Addr} (x : Grows H H') : But H H' a g := fun b o h _ _ => x b o h
theorem SAt.grows {H H' : Hp} {a g c : Addr} {cs : List Int} {n : Nat} (s : SAt H a g c cs n) (x : Grows H H') : SAt H' a g c cs n := by
  obtain ⟨gs, r, t, h1, h2, h3, h4⟩ := s.ex
  exact ⟨gs, r, t, x _ _ h1, x _ _ h2, x _ _ h3, h4⟩
theorem SAt.mono {H : Hp} {a g c : Addr} {cs : List Int} {n m : Nat} (s : SAt H a g c cs n) (h : n ≤ m) : SAt H a g c cs m := by
  obtain ⟨gs, r, t, h1, h2, h3, h4, h5, h6, h7, h8⟩ := s.ex
  exact ⟨gs, r, t, h1, h2, h3, h4, h5, h6, h7, by omega⟩
def spBegun (K : PySem.W.Frag) : Sp := fun vs H Q _ => ∃ (a : Addr) (ns : List Int), vs = [.ref a] ∧ SqL K H a (ns.map V.int) ∧ ns.length ≤ sizeLine ∧ ∀ H' p g c cs, Grows H H' → SAt H' p g c cs 0 → H p = none → H g = none → Q (.ref p) H'
def spMixed : Sp := fun vs H Q _ => ∃ (a g c : Addr) (cs : List Int) (n : Nat), vs = [.ref a] ∧ SAt H a g c cs n ∧ n ≤ 1000000 ∧ ∀ H' i, 0 ≤ i → SAt H' a g c cs (n + 1) → (∀ b o, H b = some o → b ≠ a → H' b = some o) → Q (.int i) H'
def spDraw : Sp := fun vs H Q _ => ∃ (a g c : Addr) (cs : List Int) (n : Nat) (m : Int), vs = [.ref a, .int m] ∧ SAt H a g c cs n ∧ n ≤ 1000000 ∧ 1 ≤ m ∧ m ≤ 1000000 ∧ ∀ H' i, 0 ≤ i → i < m → SAt H' a g c cs (n + 1) → But H H' a g → Q (.int i) H'
section
variable {P : Program} {w : World} {K : PySem.W.Frag} {mg : Str → Option Value} {base : Heap}
theorem scMixed : FnScope ["state", "turn", "found", "prime", "blend", "cell"] ["state"] (defScope sMixed) := ⟨rfl, rfl, rfl, by decide +kernel, rfl, by decide +kernel, by decide +kernel⟩
theorem ok_mixed {f : Addr} {fd : FuncData} (F : L2.Fun K "_law_mixed" "_law_mixed" sMixed f fd) (B : Blt mg) : FnOk P w K mg base CX0 1 f fd ["state"] spMixed := by
  refine F.ok scMixed (fun vs H Q E h => ?_) (fun cdv A outer s H vs Q E hr h => ⟨_,
    pss_cons (ps_par (i := 1) (j := 2) rfl scMixed.nd rfl rfl (by decide) rfl rfl (pa_cons (pe_op op_add (pe_dget (hu_of hr) (pv 0) pe_str (fun _ _ => rfl)) pe_int) (pa_cons pe_int pa_nil)) (by rfl))
    (pss_cons (ps_dput (hu_of hr) (pv 0) pe_str (pv 1) rfl)
    (pss_cons (ps_for PassesOwn.never rfl (pi_list (pe_lst (pa_cons pe_int (pa_cons pe_int (pa_cons pe_int (pa_cons pe_int pa_nil)))))) (pg_name (i := 3) scMixed.nd rfl (Or.inl rfl))
      (pss_cons (ps_set (i := 4) scMixed.nd rfl (Or.inl rfl) (pe_op op_add (pe_op op_mul pe_int (pv 1)) (pe_op op_fdivN (pv 3) pe_int)))
      (pss_cons (ps_for PassesOwn.never rfl (pi_list (pe_dget (hu_of hr) (pv 0) pe_str (fun _ _ => rfl))) (pg_name (i := 5) scMixed.nd rfl (Or.inl rfl))
        (pss_one (ps_set (i := 4) scMixed.nd rfl (Or.inl rfl) (pe_op op_modN (pe_callTy call_int1 (by rfl) B.int (by decide +kernel) (pa_cons (pe_op op_add (pe_op op_add (pe_op op_mul (pv 4) pe_int) (pv 5)) (pv 1)) pa_nil)) (pv 3)))))
      (pss_one (ps_set (i := 2) scMixed.nd rfl (Or.inl rfl) (pe_op op_add (pe_op op_mul (pv 2) pe_int) (pe_op op_modN (pe_callTy call_int1 (by rfl) B.int (by decide +kernel) (pa_cons (pe_op op_pow (pv 4) pe_int) pa_nil)) (pv 3))))))))
    (pss_one (ps_ret (pv 2))))), ?_⟩)
  · obtain ⟨a, g, c, cs, n, rfl, _⟩ := h
    rfl
  · obtain ⟨a, g, c, cs, n, rfl, hs, hn, q⟩ := h
    obtain ⟨gs, r, t, h1, h2, h3, h4, h5, h6, h7, h8⟩ := hs.ex
    have ag : g ≠ a := ne_of h2 h1 (by intro z; cases z)
    have ac : c ≠ a := ne_of h3 h1 (by intro z; cases z)
    refine ⟨_, rfl, a, _, rfl, (st_turn g c r t) ▸ DGet.k (k := .inr "turn") h1, t, 1, rfl, rfl, _, _, rfl, ?_⟩
    refine ⟨_, rfl, _, rfl, a, _, rfl, DPut.k (k := .inr "turn") h1 (by show 4 < sizeLine; decide), ?_⟩
    rw [st_putT]
    generalize hH1 : upd H a (.dK (stD g c r (t + 1))) = H1
    have k1 : H1 a = some (.dK (stD g c r (t + 1))) := by rw [← hH1, upd_same]
    have o1 : ∀ b o, H b = some o → b ≠ a → H1 b = some o := fun b o e hb => by rw [← hH1, upd_ne hb]; exact e
    have s1 : SAt H1 a g c cs (n + 1) := ⟨gs, r, t + 1, k1, o1 _ _ h2 ag, o1 _ _ h3 ac, h4, h5, h6, by omega, by omega⟩
    refine ⟨by show 4 ≤ sizeLine; decide, fun L nL => ?_⟩
    have gL : Grows H1 (upd H1 L (.lst [.int 2147483549, .int 2147483543, .int 2147483497, .int 2147483489])) := Grows.new nL
    have kL : upd H1 L (.lst [.int 2147483549, .int 2147483543, .int 2147483497, .int 2147483489]) L = some (.lst ([2147483549, 2147483543, 2147483497, 2147483489].map V.int)) := by rw [upd_same]; rfl
    generalize upd H1 L (.lst [.int 2147483549, .int 2147483543, .int 2147483497, .int 2147483489]) = H2 at gL kL ⊢
    have s2 := s1.grows gL
    have c2 := gL _ _ (o1 _ _ h3 ac)
    have a2 := gL _ _ k1
    refine ⟨L, rfl, ⟨_, .inl (.inl kL)⟩, for_list (K := K) (a := L) (xs := [2147483549, 2147483543, 2147483497, 2147483489].map V.int) (fun i σ H' => H' = H2 ∧ ∃ (fo : Int) (v1 v2 v3 : Option V), 0 ≤ fo ∧ σ = [some (.ref a), some (.int (t + 1)), some (.int fo), v1, v2, v3])
      ⟨rfl, 0, none, none, none, Int.le_refl _, rfl⟩ (fun i σ H' _ ⟨e, _⟩ => by rw [e]; exact .inl (.inl kL)) ?_ ?_⟩
    · rintro i x σ H' hi ⟨rfl, fo, v1, v2, v3, hfo, rfl⟩
      obtain ⟨z, hz, rfl, hz1, hz2⟩ : ∃ z, [(2147483549 : Int), 2147483543, 2147483497, 2147483489][i]? = some z ∧ x = .int z ∧ 2147483489 ≤ z ∧ z ≤ 2147483549 := by
        rw [List.getElem?_map] at hi
        cases e : [(2147483549 : Int), 2147483543, 2147483497, 2147483489][i]? with
        | none => rw [e] at hi; cases hi
        | some z =>
          rw [e] at hi
          refine ⟨z, rfl, (Option.some.inj hi).symm, ?_⟩
          have hm := List.mem_of_getElem? e
          simp only [List.mem_cons, List.not_mem_nil, or_false] at hm
          omega
      have hdiv : (0 : Int) ≤ z.fdiv 41 ∧ z.fdiv 41 ≤ 2147483549 := by
        rw [Int.fdiv_eq_ediv_of_nonneg _ (by decide : (0 : Int) ≤ 41)]
        omega
      refine ⟨_, rfl, _, _, rfl, rfl, .inl ⟨by decide, by decide⟩, _, rfl, z, 41, rfl, rfl, ⟨by decide, by decide⟩, _, _, rfl, rfl, ?_⟩
      have hz0 : (0 : Int) < z := by omega
      have md : ∀ y : Int, 0 ≤ y.fmod z ∧ y.fmod z < z := fun y => by
        rw [Int.fmod_eq_emod_of_nonneg _ (Int.le_of_lt hz0)]
        exact ⟨Int.emod_nonneg _ (by omega), Int.emod_lt_of_pos _ hz0⟩
      refine ⟨_, rfl, a, _, rfl, (st_cells g c r (t + 1)) ▸ DGet.k (k := .inr "cells") a2, c, rfl, ⟨_, .inl (.inl c2)⟩, for_list (K := K) (a := c) (xs := cs.map V.int) (fun i σ H'' => H'' = H' ∧ ∃ (bl : Int) (v3 : Option V), 0 ≤ bl ∧ bl < 2 ^ 60 ∧ σ = [some (.ref a), some (.int (t + 1)), some (.int fo), some (.int z), some (.int bl), v3])
        ⟨rfl, 69621 * (t + 1) + z.fdiv 41, v3, by omega, by omega, rfl⟩ (fun i σ H'' _ ⟨e, _⟩ => by rw [e]; exact .inl (.inl c2)) ?_ ?_⟩
      · rintro i x σ H'' hi ⟨rfl, bl, v3, hb1, hb2, rfl⟩
        obtain ⟨y, rfl⟩ : ∃ y, x = .int y := by
          rw [List.getElem?_map] at hi
          cases e : cs[i]? with
          | none => rw [e] at hi; cases hi
          | some y => rw [e] at hi; exact ⟨y, (Option.some.inj hi).symm⟩
        obtain ⟨m1, m2⟩ := md (bl * 48271 + y + (t + 1))
        refine ⟨_, rfl, _, _, rfl, rfl, .inr ⟨by decide, by decide⟩, _, rfl, _, _, rfl, rfl, _, rfl, _, _, rfl, rfl, .inl ⟨_, rfl, _, rfl, _, _, rfl, rfl, by omega, ?_⟩⟩
        exact ⟨rfl, _, some (.int y), m1, by omega, rfl⟩
      · rintro σ H'' ⟨rfl, bl, v3, hb1, hb2, rfl⟩
        obtain ⟨m1, m2⟩ := md (bl ^ 5)
        refine ⟨_, rfl, _, _, rfl, rfl, .inr ⟨by decide, by decide⟩, _, rfl, _, _, rfl, rfl, ⟨by decide, by decide, by omega⟩, .inl ⟨_, rfl, _, rfl, _, _, rfl, rfl, by omega, _, _, rfl, rfl, ?_⟩⟩
        exact ⟨rfl, _, some (.int z), some (.int bl), v3, by
          have : (0 : Int) ≤ fo * 2147483659 := Int.mul_nonneg hfo (by decide)
          exact Int.add_nonneg this m1, rfl⟩
    · rintro σ H' ⟨rfl, fo, v1, v2, v3, hfo, rfl⟩
      exact ⟨_, rfl, q H' fo hfo s2 fun b o e hb => gL _ _ (o1 b o e hb)⟩
theorem scDraw : FnScope ["state", "room", "found"] ["state", "room"] (defScope sDraw) := ⟨rfl, rfl, rfl, by decide +kernel, rfl, by decide +kernel, by decide +kernel⟩
theorem dp_ints {H : Hp} : ∀ {l : List Int}, DpAll K H (l.map V.int) (l.map PyData.int)
  | [] => .nil
  | x :: l => .cons (.int x) dp_ints
theorem shaped_ints (l : List Int) : SeqAt.shaped (.list (l.map PyData.int)) = true := by
  have e : ∀ l : List Int, PyData.canLayAll0 (l.map PyData.int) = true := fun l => by
    induction l with
    | nil => rfl
    | cons x l ih => simp [PyData.canLayAll0, PyData.canLay0, ih]
  have d : PyData.depth (.list (l.map PyData.int)) ≤ 64 := by
    rw [PyData.depth, PySem.W.depth_ints]
    decide
  unfold SeqAt.shaped
  rw [Bool.and_eq_true]
  exact ⟨by rw [PyData.canLay0]; exact e l, decide_eq_true d⟩
theorem eqv_nil (l : List Int) : PyData.eqv (.list (l.map PyData.int)) (.list []) = decide (l = []) := by
  cases l <;> rfl
def rInt1 : List V → Hp → VK → Prop := fun xs H Q => (∃ i, xs = [.int i] ∧ Q (.int i) H) ∨ ∃ k, xs = [.bl k] ∧ Q (.int (if k then 1 else 0)) H
/-- found = int(state['rest']) % room; state['rest'] = state['rest'] // room; return found -/
def t_fin : TS := tSeq (tAsg (tOp (rI (fun _ j => j ≠ 0) fun i j => .int (i.fmod j)) (tCB rInt1 (tCons (tDGet (tVar 0) (tC (.str "rest"))) tNil)) (tVar 1)) (gName 2))
  (tSeq (sDPut (tVar 0) (tC (.str "rest")) (tOp (rI CDivN fun i j => .int (i.fdiv j)) (tDGet (tVar 0) (tC (.str "rest"))) (tVar 1))) (tRet (tVar 2)))
theorem draw_fin {H H1 : Hp} {a g c : Addr} {cs gs : List Int} {n : Nat} {m r t : Int} {Q : VK} (hm1 : 1 ≤ m) (hm2 : m ≤ 1000000) (h4 : g ≠ c) (ag : g ≠ a) (ac : c ≠ a) (q : ∀ H' i, 0 ≤ i → i < m → SAt H' a g c cs (n + 1) → But H H' a g → Q (.int i) H')
    (hb : But H H1 a g) (k1 : H1 a = some (.dK (stD g c r t))) (k2 : H1 g = some (.lst (gs.map V.int))) (k3 : H1 c = some (.lst (cs.map V.int))) (k5 : ∀ z ∈ gs, 0 ≤ z) (k6 : 0 ≤ r) (k7 : 0 ≤ t) (k8 : t ≤ ((n + 1 : Nat) : Int)) :
    t_fin { nx := fun _ H' => Q .non H', rt := Q } [some (.ref a), some (.int m), none] H1 := by
  have hm0 : (0 : Int) < m := by omega
  refine ⟨_, rfl, a, _, rfl, (st_rest g c r t) ▸ DGet.k (k := .inr "rest") k1, .inl ⟨_, rfl, _, rfl, _, _, rfl, rfl, by omega, ?_⟩⟩
  refine ⟨_, rfl, a, _, rfl, (st_rest g c r t) ▸ DGet.k (k := .inr "rest") k1, _, rfl, _, _, rfl, rfl, ⟨by omega, by omega⟩, ?_⟩
  refine ⟨_, rfl, a, _, rfl, DPut.k (k := .inr "rest") k1 (by show 4 < sizeLine; decide), ?_⟩
  rw [st_putR]
  have e1 : r.fmod m = r % m := Int.fmod_eq_emod_of_nonneg _ (Int.le_of_lt hm0)
  have e2 : r.fdiv m = r / m := Int.fdiv_eq_ediv_of_nonneg _ (Int.le_of_lt hm0)
  refine ⟨_, rfl, q _ _ (by rw [e1]; exact Int.emod_nonneg _ (by omega)) (by rw [e1]; exact Int.emod_lt_of_pos _ hm0) ⟨gs, r.fdiv m, t, upd_same, by rw [upd_ne ag]; exact k2, by rw [upd_ne ac]; exact k3, h4, k5, by rw [e2]; exact Int.ediv_nonneg k6 (Int.le_of_lt hm0), k7, k8⟩ fun b o e n1 n2 => ?_⟩
  rw [upd_ne n1]
  exact hb b o e n1 n2
theorem ok_draw {f f1 : Addr} {fd fd1 : FuncData} (F : L2.Fun K "_law_draw" "_law_draw" sDraw f fd) (B : Blt mg) (G : FnOk P w K mg base CX0 1 f1 fd1 ["state"] spMixed) (D : Def mg K "_law_mixed" f1 fd1 ["state"]) : FnOk P w K mg base CX0 2 f fd ["state", "room"] spDraw := by
  refine F.ok scDraw (fun vs H Q E h => ?_) (fun cdv A outer s H vs Q E hr h => ⟨_,
    pss_cons (ps_if (pt_cmpR op_eq (pe_dget (hu_of hr) (pv 0) pe_str (fun _ _ => rfl)) pe_int (nomark _))
      (pss_one (ps_dput (hu_of hr) (pv 0) pe_str (pe_ifExp (pt_cmpR (op_neD (by have := hr.un; show (A.deeper _).units + 64 < _; omega)) (pe_dget (hu_of hr) (pv 0) pe_str (fun _ _ => rfl)) (pe_lst pa_nil) (nomark _))
        (pe_bm PySem.F.plainAttrs_list PySem.F.slot_list_pop PySem.F.type_list_pop mt_popAt (pe_dget (hu_of hr) (pv 0) pe_str (fun _ _ => rfl)) (pa_cons pe_int pa_nil))
        (pe_call G hr (by rfl) D.g D.k D.b .nil pass0 (pa_cons (pv 0) pa_nil))) rfl)) pss_nil)
    (pss_cons (ps_set (i := 2) scDraw.nd rfl (Or.inl rfl) (pe_op op_modN (pe_callTy call_int1 (by rfl) B.int (by decide +kernel) (pa_cons (pe_dget (hu_of hr) (pv 0) pe_str (fun _ _ => rfl)) pa_nil)) (pv 1)))
    (pss_cons (ps_dput (hu_of hr) (pv 0) pe_str (pe_op op_fdivN (pe_dget (hu_of hr) (pv 0) pe_str (fun _ _ => rfl)) (pv 1)) rfl)
    (pss_one (ps_ret (pv 2))))), ?_⟩)
  · obtain ⟨a, g, c, cs, n, m, rfl, _⟩ := h
    rfl
  · obtain ⟨a, g, c, cs, n, m, rfl, hs, hn, hm1, hm2, q⟩ := h
    obtain ⟨gs, r, t, h1, h2, h3, h4, h5, h6, h7, h8⟩ := hs.ex
    have ag : g ≠ a := ne_of h2 h1 (by intro z; cases z)
    have ac : c ≠ a := ne_of h3 h1 (by intro z; cases z)
    have hm0 : (0 : Int) < m := by omega
    have fin := fun (H1 : Hp) gs r t => draw_fin (H1 := H1) (n := n) (gs := gs) (r := r) (t := t) hm1 hm2 h4 ag ac q
    refine ⟨_, rfl, a, _, rfl, (st_rest g c r t) ▸ DGet.k (k := .inr "rest") h1, rfl, _, rfl, ?_⟩
    by_cases hr0 : r = 0
    · refine if_pos_of (decide_eq_true (congrArg V.int hr0)) ?_
      refine ⟨_, rfl, a, _, rfl, (st_great g c r t) ▸ DGet.k (k := .inr "great") h1, by show 0 ≤ sizeLine; decide, fun p np => ?_⟩
      have gp : Grows H (upd H p (.lst [])) := Grows.new np
      have kp : upd H p (.lst []) p = some (.lst []) := upd_same
      generalize upd H p (.lst []) = H2 at gp kp ⊢
      refine ⟨.list (gs.map PyData.int), .list [], .lst (.inl (.inl (gp _ _ h2))) dp_ints, .lst (.inl (.inl kp)) .nil, shaped_ints gs, rfl, _, rfl, ?_⟩
      rw [eqv_nil]
      cases gs with
      | nil =>
        refine if_neg_of (by decide) ?_
        refine ⟨_, rfl, a, g, c, cs, n, rfl, hs.grows gp, hn, fun H3 i hi s3 hk3 => ?_⟩
        obtain ⟨gs', r', t', k1, k2, k3, k4, k5, k6, k7, k8⟩ := s3.ex
        refine ⟨_, rfl, a, _, rfl, DPut.k (k := .inr "rest") k1 (by show 4 < sizeLine; decide), ?_⟩
        rw [st_putR]
        refine fin (upd H3 a (.dK (stD g c i t'))) gs' i t' (fun b o e n1 n2 => ?_) upd_same (by rw [upd_ne ag]; exact k2) (by rw [upd_ne ac]; exact k3) k5 hi k7 k8
        rw [upd_ne n1]
        exact hk3 b o (gp b o e) n1
      | cons y gs =>
        refine if_pos_of (by rw [decide_eq_false (by simp)]; decide) ?_
        refine ⟨_, rfl, a, .ref g, rfl, (st_great g c r t) ▸ DGet.k (k := .inr "great") (gp _ _ h1), Or.inl ⟨rfl, _, .inl (.inl (gp _ _ h2))⟩, g, _, 0, 0, .int y, rfl, rfl, gp _ _ h2, by decide, by decide, by simp [seqIndex?], rfl, ?_⟩
        refine ⟨_, rfl, a, _, rfl, DPut.k (k := .inr "rest") (show upd H2 g _ a = _ from (upd_ne ag.symm).trans (gp _ _ h1)) (by show 4 < sizeLine; decide), ?_⟩
        rw [st_putR]
        refine fin (upd (upd H2 g (.lst ((gs.map V.int)))) a (.dK (stD g c y t))) gs y t (fun b o e n1 n2 => ?_) upd_same (by rw [upd_ne ag, upd_same]) (by rw [upd_ne ac, upd_ne h4.symm]; exact gp _ _ h3) (fun z hz => h5 z (List.mem_cons_of_mem _ hz)) (h5 y List.mem_cons_self) h7 (by omega)
        rw [upd_ne n1, upd_ne n2]
        exact gp b o e
    · refine if_neg_of (by rw [decide_eq_false (fun z => hr0 (V.int.inj z))]; decide) ?_
      exact fin H gs r t (But.refl H a g) h1 h2 h3 h5 h6 h7 (by omega)
def spPick : Sp := fun vs H Q _ => ∃ (a g c l : Addr) (cs : List Int) (n : Nat) (xs : List V), vs = [.ref a, .ref l] ∧ SAt H a g c cs n ∧ n ≤ 1000000 ∧ H l = some (.lst xs) ∧ l ≠ g ∧ xs ≠ [] ∧ xs.length ≤ 1000000 ∧ ∀ H' x, x ∈ xs → SAt H' a g c cs (n + 1) → But H H' a g → Q x H'
def absI : V → Int
  | .int i => if i < 0 then -i else i
  | _ => 0
theorem absI_nn (v : V) : 0 ≤ absI v := by
  cases v <;> (unfold absI; try exact Int.le_refl _)
  split <;> omega
theorem scPick : FnScope ["state", "some"] ["state", "some"] (defScope sPick) := ⟨rfl, rfl, rfl, by decide +kernel, rfl, by decide +kernel, by decide +kernel⟩
theorem ok_pick {f f1 : Addr} {fd fd1 : FuncData} (F : L2.Fun K "_law_pick" "_law_pick" sPick f fd) (B : Blt mg) (G : FnOk P w K mg base CX0 2 f1 fd1 ["state", "room"] spDraw) (D : Def mg K "_law_draw" f1 fd1 ["state", "room"]) : FnOk P w K mg base CX0 3 f fd ["state", "some"] spPick := by
  refine F.ok scPick (fun vs H Q E h => ?_) (fun cdv A outer s H vs Q E hr h => ⟨_,
    pss_one (ps_ret (pe_ix ix_list (pv 1) (pe_call G hr (by rfl) D.g D.k D.b .nil pass0 (pa_cons (pv 0) (pa_cons (pe_callB call_len_seq (by rfl) B.len PySem.boot_len (pa_cons (pv 1) pa_nil)) pa_nil))) (fun _ _ => rfl))), ?_⟩)
  · obtain ⟨a, g, c, l, cs, n, xs, rfl, _⟩ := h
    rfl
  · obtain ⟨a, g, c, l, cs, n, xs, rfl, hs, hn, hl, lg, hne, hlen, q⟩ := h
    have la : l ≠ a := by
      obtain ⟨gs, r, t, h1, _⟩ := hs.ex
      exact ne_of hl h1 (by intro z; cases z)
    have hpos : 0 < xs.length := List.length_pos_iff.mpr hne
    refine ⟨_, rfl, _, rfl, _, rfl, l, xs, rfl, .inl (.inl (.inl hl)), a, g, c, cs, n, _, rfl, hs, hn, by omega, by omega, fun H' i hi hlt s' hb => ?_⟩
    obtain ⟨k, rfl⟩ : ∃ k : Nat, i = k := ⟨i.toNat, by omega⟩
    have hk : k < xs.length := by omega
    exact ⟨l, xs, k, xs[k], rfl, rfl, .inl (.inl (hb l _ hl la lg)), atI_nat (List.getElem?_eq_getElem hk), q H' _ (List.getElem_mem hk) s' hb⟩
theorem scBegun : FnScope ["script", "great", "cell"] ["script"] (defScope sBegun) := ⟨rfl, rfl, rfl, by decide +kernel, rfl, by decide +kernel, by decide +kernel⟩
theorem ok_begun {f : Addr} {fd : FuncData} (F : L2.Fun K "_law_begun" "_law_begun" sBegun f fd) (B : Blt mg) : FnOk P w K mg base CX0 1 f fd ["script"] (spBegun K) := by
  refine F.ok scBegun (fun vs H Q E h => ?_) (fun cdv A outer s H vs Q E hr h => ⟨_,
    pss_cons (ps_setLc (i := 1) (own := [("cell", 2)]) (g := gName 2) rfl scBegun.nd rfl rfl (sw_true rfl rfl rfl (by decide +kernel)) (pi_list (pv 0)) (blkOk_by (N := ["script", "great", "cell"]) (sc := defScope sBegun) (by decide +kernel)) (fun _ _ _ _ _ => pg_name (i := 2) scBegun.nd rfl (Or.inl rfl))
        (fun _ _ _ _ _ => pts_one (pt_cmpR op_ge (pe_callB call_abs (by rfl) B.abs (by decide +kernel) (pa_cons (pv 2) pa_nil)) (pe_op op_pow pe_int pe_int) (nomark _)))
        (fun _ _ _ _ _ => pe_op op_sub (pe_callB call_abs (by rfl) B.abs (by decide +kernel) (pa_cons (pv 2) pa_nil)) (pe_op op_pow pe_int pe_int)))
    (pss_one (ps_ret (pe_disp (pps_cons pe_str (pv 1) (pps_cons pe_str
        (pe_lc (own := [("cell", 2)]) (g := gName 2) (tt := tYes) rfl scBegun.nd (pi_list (pv 0)) (blkOk_by (N := ["script", "great", "cell"]) (sc := defScope sBegun) (by decide +kernel)) (fun _ _ _ _ _ => pg_name (i := 2) scBegun.nd rfl (Or.inl rfl)) (fun _ _ _ _ _ => pts_nil)
          (fun _ _ _ _ _ => pe_callB call_abs (by rfl) B.abs (by decide +kernel) (pa_cons (pv 2) pa_nil)))
        (pps_cons pe_str pe_int (pps_cons pe_str pe_int pps_nil)))) (by rfl) (by rfl) (by simp) (by decide)))), ?_⟩)
  · obtain ⟨a, ns, rfl, _⟩ := h
    rfl
  · obtain ⟨a, ns, rfl, hs, hn, q⟩ := h
    have hlen : (ns.map V.int).length ≤ sizeLine := by rw [List.length_map]; exact hn
    refine ⟨_, rfl, a, rfl, ⟨_, hs⟩, fun g0 ng => comp (xs := ns.map V.int) walk_list (fun v => decide ((10 : Int) ^ (18 : Int).toNat ≤ absI v)) (fun v => .int (absI v - (10 : Int) ^ (18 : Int).toNat)) ng (fun H g => g.l hs) hlen
      (fun x H k hx g hk => ?_) (fun x H Q hx hp g hq => ?_) (fun H1 g1 hg1 => ?_)⟩
    · obtain ⟨z, _, rfl⟩ := List.mem_map.mp hx
      exact ⟨_, rfl, z, rfl, _, _, rfl, rfl, ⟨by decide, by decide, by decide⟩, _, _, rfl, rfl, _, rfl, hk H (Grows.refl H)⟩
    · obtain ⟨z, _, rfl⟩ := List.mem_map.mp hx
      exact ⟨_, rfl, z, rfl, _, _, rfl, rfl, ⟨by decide, by decide, by decide⟩, _, _, rfl, rfl, hq H (Grows.refl H)⟩
    · intro p np
      have np0 : H p = none := by
        cases e : H p with
        | none => rfl
        | some o => rw [g1 _ _ e] at np; cases np
      have gp : Grows H1 (upd H1 p (.dK [])) := Grows.new np
      have kp : upd H1 p (.dK []) p = some (.dK []) := upd_same
      generalize upd H1 p (.dK []) = H2 at gp kp ⊢
      have g2 := g1.trans gp
      refine ⟨_, rfl, ?_⟩
      refine ⟨_, rfl, a, rfl, ⟨_, g2.l hs⟩, fun c0 nc => comp (xs := ns.map V.int) walk_list (fun _ => true) (fun v => .int (absI v)) nc (fun H g => (g2.trans g).l hs) hlen (fun x H k hx g hk => hk H (Grows.refl H)) (fun x H Q hx hp g hq => ?_) (fun H3 g3 hg3 => ?_)⟩
      · obtain ⟨z, _, rfl⟩ := List.mem_map.mp hx
        exact ⟨_, rfl, z, rfl, hq H (Grows.refl H)⟩
      · rw [filter_yes] at hg3
        refine ⟨g3 _ _ kp, stD g0 c0 0 0, rfl, by show 4 ≤ 15; decide, ?_⟩
        rw [st_new]
        have gP : g0 ≠ p := ne_of (gp _ _ hg1) kp (by intro z; cases z)
        have cP : c0 ≠ p := ne_of hg3 (g3 _ _ kp) (by intro z; cases z)
        have gc : g0 ≠ c0 := ne_of_none (gp _ _ hg1) nc
        refine q _ p g0 c0 ((ns.map V.int).map absI) (fun b o e => ?_) ⟨((ns.map V.int).filter fun v => decide ((10 : Int) ^ (18 : Int).toNat ≤ absI v)).map (fun v => absI v - (10 : Int) ^ (18 : Int).toNat), 0, 0, upd_same, ?_, ?_, gc, ?_, by decide, by decide, by decide⟩ np0 ng
        · rw [upd_ne (ne_of_none e np0)]
          exact g3 _ _ (g2 _ _ e)
        · rw [upd_ne gP, g3 _ _ (gp _ _ hg1), List.map_map]
          rfl
        · rw [upd_ne cP, hg3]
          simp only [List.map_map]
          rfl
        · intro z hz
          obtain ⟨v, hv, rfl⟩ := List.mem_map.mp hz
          have := of_decide_eq_true (List.mem_filter.mp hv).2
          omega
end
end SWL
set_option Elab.async false
set_option linter.all false
set_option maxRecDepth 100000
set_option maxHeartbeats 4000000
namespace SWL
open PySem PySem.Spec PyProof.Rows L2 LamX
theorem pe_no {X : Cx} {e : Expr} : PE X e (fun _ _ _ => False) := ⟨fun _ _ _ _ _ _ h => h.elim⟩
theorem pss_no {X : Cx} {b : List Stmt} : PSs X b (fun _ _ _ => False) := ⟨fun _ _ _ _ _ _ h => h.elim⟩
def spPlain (K : PySem.W.Frag) (k : Nat) : Sp := fun vs H Q _ => ∃ x d, vs = [x] ∧ Dp K H x d ∧ d.depth < k ∧ ∀ H', Grows H H' → Q (.bl true) H'
section
variable {P : Program} {w : World} {K : PySem.W.Frag} {mg : Str → Option Value} {base : Heap}
theorem scPlain : FnScope ["value", "one"] ["value"] (defScope sPlain) := ⟨rfl, rfl, rfl, by decide +kernel, rfl, by decide +kernel, by decide +kernel⟩
theorem dpall_mem {H : Hp} : ∀ {xs : List V} {ds : List PyData}, DpAll K H xs ds → ∀ x ∈ xs, ∃ d, Dp K H x d ∧ d.depth ≤ PyData.depthAll ds
  | _, _, .nil, x, hx => by cases hx
  | _, _, .cons (d := d) (ds := ds) h t, x, hx => by
    rcases List.mem_cons.mp hx with rfl | hx
    · exact ⟨d, h, by rw [PyData.depthAll]; omega⟩
    · obtain ⟨d', h1, h2⟩ := dpall_mem t x hx
      exact ⟨d', h1, by rw [PyData.depthAll]; omega⟩
theorem ok_plain {f : Addr} {fd : FuncData} (F : L2.Fun K "_law_plain" "_law_plain" sPlain f fd) (B : Blt mg) (D : Def mg K "_law_plain" f fd ["value"]) : ∀ k : Nat, FnOk P w K mg base CX0 (k + 1) f fd ["value"] (spPlain K k)
  | 0 => F.ok scPlain (fun vs H Q E h => by obtain ⟨x, d, rfl, _⟩ := h; rfl) (fun cdv A outer s H vs Q E hr h => by
      obtain ⟨x, d, _, _, z, _⟩ := h
      exact absurd z (Nat.not_lt_zero _))
  | k + 1 => by
    have G := ok_plain F B D k
    refine F.ok scPlain (fun vs H Q E h => by obtain ⟨x, d, rfl, _⟩ := h; rfl) (fun cdv A outer s H vs Q E hr h => ⟨_,
      pss_cons (ps_if (pt_truth (pe_callB call_isiT (by rfl) B.isi (by decide +kernel) (pa_cons (pv 0) (pa_cons (pe_tup (pa_cons (pe_bltn (u := .type "list") (v := .ty "list") (by rfl) B.list (by decide +kernel) rfl) (pa_cons (pe_bltn (u := .type "tuple") (v := .ty "tuple") (by rfl) B.tuple (by decide +kernel) rfl) pa_nil))) pa_nil))) (by intro _; rfl))
        (pss_one (ps_ret (pe_cmpR (op_eqD (by have := hr.un; show (A.deeper _).units + 64 < _; omega)) (pe_lc (own := [("one", 1)]) (g := gName 1) (tt := tNot fun σ H Q => tCall (spPlain K k) [] E0 (tCons (tVar 1) tNil) σ H fun x H' => ∃ k, TruV K x H' k ∧ Q k H') rfl scPlain.nd (pi_or (pi_list (pv 0)) (pi_tup (pv 0))) (blkOk_by (N := ["value", "one"]) (sc := defScope sPlain) (by decide +kernel)) (fun _ _ _ _ _ => pg_name (i := 1) scPlain.nd rfl (Or.inl rfl))
          (fun _ _ _ _ _ => pts_one (pt_not (pt_truth (pe_call G hr (by rfl) D.g D.k D.b .nil pass0 (pa_cons (pv 1) pa_nil)) (by intro _; rfl)))) (fun _ _ _ _ _ => pe_int)) (pe_lst pa_nil) (nomark _)))) pss_nil)
      (pss_cons (ps_if (pt_truth (pe_callB call_isi (by rfl) B.isi (by decide +kernel) (pa_cons (pv 0) (pa_cons (pe_bltn (u := .type "dict") (v := .ty "dict") (by rfl) B.dict (by decide +kernel) rfl) pa_nil))) (by intro _; rfl)) pss_no pss_nil)
      (pss_one (ps_ret (pe_or (pe_cmpR op_isN1 (pv 0) pe_non (nomark _)) (pe_one (pe_callB call_isiT (by rfl) B.isi (by decide +kernel) (pa_cons (pv 0) (pa_cons (pe_tup (pa_cons (pe_bltn (u := .type "int") (v := .ty "int") (by rfl) B.int (by decide +kernel) rfl) (pa_cons (pe_bltn (u := .type "str") (v := .ty "str") (by rfl) B.str (by decide +kernel) rfl) pa_nil))) pa_nil)))))))), ?_⟩)
    obtain ⟨x, d, rfl, hd, hk, q⟩ := h
    refine ⟨_, rfl, by show 2 ≤ sizeLine; decide, fun tp ntp => ?_⟩
    have gt : Grows H (upd H tp (.tup [.ty "list", .ty "tuple"])) := Grows.new ntp
    have kt : upd H tp (.tup [.ty "list", .ty "tuple"]) tp = some (.tup [.ty "list", .ty "tuple"]) := upd_same
    generalize upd H tp (.tup [.ty "list", .ty "tuple"]) = H1 at gt kt ⊢
    have kinds : (∃ (a : Addr) (xs : List V) (ds : List PyData), x = .ref a ∧ Sq K H a xs ∧ DpAll K H xs ds ∧ d.depth = 1 + PyData.depthAll ds) ∨ ∃ t : String, TyX K H x (.type t) ∧ kitB t "list" = some false ∧ kitB t "tuple" = some false ∧ kitB t "dict" = some false ∧ (x = .non ∨ (x ≠ .non ∧ PySem.W.kitAny K (.type t) [.type "int", .type "str"] = some true)) := by
      cases hd with
      | non => exact .inr ⟨"NoneType", .base .non, by decide +kernel, by decide +kernel, by decide +kernel, .inl rfl⟩
      | bl b => exact .inr ⟨"bool", .base (.bl b), by decide +kernel, by decide +kernel, by decide +kernel, .inr ⟨(by intro z; cases z), kitAny_cons (b := true) (kit_ty (by decide +kernel)) (fun z => by cases z) fun _ => rfl⟩⟩
      | int b => exact .inr ⟨"int", .base (.int b), by decide +kernel, by decide +kernel, by decide +kernel, .inr ⟨(by intro z; cases z), kitAny_cons (b := true) (kit_ty (by decide +kernel)) (fun z => by cases z) fun _ => rfl⟩⟩
      | str b => exact .inr ⟨"str", .base (.str b), by decide +kernel, by decide +kernel, by decide +kernel, .inr ⟨(by intro z; cases z), kitAny_cons (b := false) (kit_ty (by decide +kernel)) (fun _ => kitAny_cons (b := true) (kit_ty (by decide +kernel)) (fun z => by cases z) fun _ => rfl) fun z => by cases z⟩⟩
      | lst h1 h2 => exact .inl ⟨_, _, _, rfl, .inl h1, h2, by rw [PyData.depth]; omega⟩
      | tup h1 h2 => exact .inl ⟨_, _, _, rfl, .inr h1, h2, by rw [PyData.depth]; omega⟩
    rcases kinds with ⟨a, xs, ds, rfl, hs, hds, hdep⟩ | ⟨t, ty, k1, k2, k3, k4⟩
    · obtain ⟨t, ty, ka⟩ := ty_sq (gt.sq hs)
      refine ⟨.ref a, tp, _, .type t, [.type "list", .type "tuple"], true, rfl, kt, .cons (.ty _) (.cons (.ty _) .nil), ty, ka, true, rfl, if_pos_of rfl ?_⟩
      have main : ∀ (J : It) (G : Hp → Prop), Walk J xs.length G (YAt xs) → (∀ H', Grows H1 H' → G H') → _ := fun J G wk hG D0 (nD : H1 D0 = none) =>
        compF (σ := [some (.ref a), none]) (i := 1) (te := tC (.int 1)) (tt := tNot fun σ H Q => tCall (spPlain K k) [] E0 (tCons (tVar 1) tNil) σ H fun x H' => ∃ k, TruV K x H' k ∧ Q k H')
          (Qd := fun H2 => tLst tNil [some (.ref a), none] H2 fun y H3 => rEqD K (.ref D0) y H3 fun v H4 => Q v H4) wk (fun _ => false) (fun _ => .int 1) nD hG (by rw [show xs.filter (fun _ => false) = [] from by simp]; exact Nat.zero_le _)
          (fun y H2 kk hy g2 hkk => by
            obtain ⟨d', h1, h2⟩ := dpall_mem hds y hy
            refine ⟨_, rfl, y, d', rfl, (gt.trans g2).dp _ _ h1, by omega, fun H3 g3 => ⟨true, rfl, hkk H3 g3⟩⟩)
          (fun y H2 Q hy hp => by cases hp)
          (fun H2 g2 hD => by
            have e : (xs.filter fun _ => false).map (fun _ => V.int 1) = [] := by simp
            rw [e] at hD
            refine ⟨by show 0 ≤ sizeLine; decide, fun p np => ?_⟩
            exact ⟨.list [], .list [], .lst (.inl (.inl ((Grows.new np) _ _ hD))) .nil, .lst (.inl (.inl upd_same)) .nil, rfl, rfl, q _ ((gt.trans g2).trans (Grows.new np))⟩)
      rcases hs with hs | hs
      · exact .inl ⟨_, rfl, a, rfl, ⟨_, gt.l hs⟩, main _ _ walk_list fun H' g => (gt.trans g).l hs⟩
      · exact .inr ⟨_, rfl, a, rfl, ⟨_, gt.t hs⟩, main _ _ walk_tup fun H' g => (gt.trans g).t hs⟩
    · refine ⟨x, tp, _, .type t, [.type "list", .type "tuple"], false, rfl, kt, .cons (.ty _) (.cons (.ty _) .nil), tyx_grows gt ty, NotSeq.kit k1 k2, false, rfl, if_neg_of (by decide) ?_⟩
      refine ⟨_, rfl, x, .ty "dict", .type t, .type "dict", false, rfl, .ty "dict", tyx_grows gt ty, kit_ty k3, false, rfl, if_neg_of (by decide) ?_⟩
      rcases k4 with e | ⟨e, k4⟩
      · exact ⟨_, rfl, rfl, _, rfl, if_pos_of (decide_eq_true e) (q H1 gt)⟩
      · refine ⟨_, rfl, rfl, _, rfl, if_neg_of (by rw [decide_eq_false e]; decide) ?_⟩
        refine ⟨_, rfl, by show 2 ≤ sizeLine; decide, fun tp2 ntp2 => ?_⟩
        exact ⟨x, tp2, _, .type t, [.type "int", .type "str"], true, rfl, upd_same, .cons (.ty _) (.cons (.ty _) .nil), tyx_grows (gt.trans (Grows.new ntp2)) ty, k4, q _ (gt.trans (Grows.new ntp2))⟩
end
structure GoodD (d : PyData) : Prop where
  lay : d.layable0 = true
  dep : d.depth ≤ 50
  short : d.intsShort 13 = true
  sh : d.showable = true
  nd : d.hasDict = false
theorem GoodD.can {d : PyData} (g : GoodD d) : d.canLay0 = true := by
  have h : (PyData.canLay0 d && decide (PyData.depth d ≤ 64) && decide (PyData.weight d ≤ 2 ^ 20)) = true := g.lay
  simp only [Bool.and_eq_true] at h
  exact h.1.1
theorem GoodD.shaped {d : PyData} (g : GoodD d) : SeqAt.shaped d = true := SeqAt.shaped_of_layable g.lay
section
variable {P : Program} {w : World} {K : PySem.W.Frag} {mg : Str → Option Value} {base : Heap}
theorem scIs : FnScope ["found", "due"] ["found", "due"] (defScope sIs) := ⟨rfl, rfl, rfl, by decide +kernel, rfl, by decide +kernel, by decide +kernel⟩
end
/-- what is told and what is due: one data -/
def spIsV (K : PySem.W.Frag) (k : Nat) : Sp := fun vs H Q _ => ∃ (x y : V) (d : PyData), vs = [x, y] ∧ Dp K H x d ∧ Dp K H y d ∧ GoodD d ∧ d.depth < k ∧ ∀ H', Grows H H' → Q (.bl true) H'
theorem good_str {z : Str} (h1 : PyData.strOk z = true) (h2 : z.length ≤ 100000) : GoodD (.str z) := by
  refine ⟨?_, Nat.zero_le _, rfl, rfl, rfl⟩
  unfold PyData.layable0
  have e1 : PyData.canLay0 (.str z) = true := h1
  have e2 : PyData.weight (.str z) = z.length := by rw [PyData.weight]; rfl
  rw [e1, e2]
  have : z.length ≤ 2 ^ 20 := by omega
  simp [this, PyData.depth]
theorem good_bool (b : Bool) : GoodD (.bool b) := by
  cases b <;> exact ⟨by decide +kernel, by decide +kernel, by decide +kernel, by decide +kernel, by decide +kernel⟩
section
variable {P : Program} {w : World} {K : PySem.W.Frag} {mg : Str → Option Value} {base : Heap}
theorem ok_isV {f f1 : Addr} {fd fd1 : FuncData} {k : Nat} (F : L2.Fun K "_law_is" "_law_is" sIs f fd) (B : Blt mg) (G : FnOk P w K mg base CX0 (k + 1) f1 fd1 ["value"] (spPlain K k)) (D : Def mg K "_law_plain" f1 fd1 ["value"]) : FnG P w K mg base (k + 2) f fd ["found", "due"] (spIsV K k) := by
  refine fng_ok F scIs (fun vs H Q E h => ?_) (fun cdv A outer s H vs Q E gA _ hr h => ⟨_,
    pss_one (ps_ret (pe_and (pe_call G hr (by rfl) D.g D.k D.b .nil pass0 (pa_cons (pv 0) pa_nil))
      (pe_and (pe_cmpR (op_eqD (by have := hr.un; show (A.deeper _).units + 64 < _; omega)) (pv 0) (pv 1) (nomark _))
      (pe_and (pe_cmpR (op_eqD (by have := hr.un; show (A.deeper _).units + 64 < _; omega)) (pv 1) (pv 0) (nomark _))
      (pe_one (pe_cmpR op_eq (pe_callB (cr_reprD gA (by have := hr.un; show (A.deeper _).units + 64 < _; omega)) (by rfl) B.repr (by decide +kernel) (pa_cons (pv 0) pa_nil)) (pe_callB (cr_reprD gA (by have := hr.un; show (A.deeper _).units + 64 < _; omega)) (by rfl) B.repr (by decide +kernel) (pa_cons (pv 1) pa_nil)) (nomark _))))))), ?_⟩)
  · obtain ⟨a, b, d, rfl, _⟩ := h
    rfl
  · obtain ⟨a, b, d, rfl, h1, h2, g, hk, q⟩ := h
    have fit : d.shown.length ≤ sizeLine := by
      have := PyData.shown_le_of_layable0 g.lay g.short
      exact Nat.le_trans this (by decide)
    refine ⟨_, rfl, _, d, rfl, h1, hk, fun H1 g1 => ⟨true, rfl, if_pos_of rfl ?_⟩⟩
    have k1 := g1.dp _ _ h1
    have k2 := g1.dp _ _ h2
    refine ⟨_, rfl, _, rfl, d, d, k1, k2, g.shaped, g.shaped, PyData.eqv d d, rfl, ?_⟩
    rw [PySem.SeqAt.eqv_refl d g.can]
    refine if_pos_of rfl ⟨_, rfl, _, rfl, d, d, k2, k1, g.shaped, g.shaped, PyData.eqv d d, rfl, ?_⟩
    rw [PySem.SeqAt.eqv_refl d g.can]
    refine if_pos_of rfl ⟨_, rfl, a, d, rfl, k1, g.sh, g.nd, g.dep, fit, _, rfl, b, d, rfl, k2, g.sh, g.nd, g.dep, fit, rfl, ?_⟩
    rw [decide_eq_true rfl]
    exact q H1 g1
end
end SWL
set_option Elab.async false
set_option linter.all false
set_option maxRecDepth 100000
set_option maxHeartbeats 4000000
namespace SWL
open PySem PySem.Spec PyProof.Rows L2 LamX
/-- no number -/
def NotNum (K : PySem.W.Frag) (H : Hp) (x : V) : Prop := (∃ b, x = .bl b) ∨ ∃ t : String, TyX K H x (.type t) ∧ kitB t "int" = some false
theorem NotNum.grows {K : PySem.W.Frag} {H H' : Hp} (g : Grows H H') {x : V} (h : NotNum K H x) : NotNum K H' x := h.imp id fun ⟨t, h1, h2⟩ => ⟨t, tyx_grows g h1, h2⟩
def spIsNum (K : PySem.W.Frag) : Sp := fun vs H Q _ => ∃ x lo hi, vs = [x, .int lo, .int hi] ∧ ((∃ i, x = .int i ∧ Q (.bl (decide (lo ≤ i ∧ i ≤ hi))) H) ∨ (NotNum K H x ∧ Q (.bl false) H))
section
variable {P : Program} {w : World} {K : PySem.W.Frag} {mg : Str → Option Value} {base : Heap}
theorem scIsNum : FnScope ["thing", "least", "most"] ["thing", "least", "most"] (defScope sIsNum) := ⟨rfl, rfl, rfl, by decide +kernel, rfl, by decide +kernel, by decide +kernel⟩
theorem ok_isNum {f : Addr} {fd : FuncData} (F : L2.Fun K "is_number" "is_number" sIsNum f fd) (B : Blt mg) : FnOk P w K mg base CX0 1 f fd ["thing", "least", "most"] (spIsNum K) := by
  refine F.ok scIsNum (fun vs H Q E h => ?_) (fun cdv A outer s H vs Q E hr h => ⟨_,
    pss_one (ps_ret (pe_and (pe_callB call_isi (by rfl) B.isi (by decide +kernel) (pa_cons (pv 0) (pa_cons (pe_bltn (u := .type "int") (v := .ty "int") (by rfl) B.int (by decide +kernel) rfl) pa_nil)))
      (pe_and (pe_not (pe_callB call_isi (by rfl) B.isi (by decide +kernel) (pa_cons (pv 0) (pa_cons (pe_bltn (u := .type "bool") (v := .ty "bool") (by rfl) B.bool (by decide +kernel) rfl) pa_nil))))
      (pe_one (pe_chain op_le op_le (pv 1) (pv 0) (pv 2)))))), ?_⟩)
  · obtain ⟨x, lo, hi, rfl, _⟩ := h
    rfl
  · obtain ⟨x, lo, hi, rfl, h⟩ := h
    rcases h with ⟨i, rfl, q⟩ | ⟨⟨b, rfl⟩ | ⟨t, ty, hk⟩, q⟩
    · refine ⟨_, rfl, .int i, .ty "int", .type "int", .type "int", true, rfl, .ty "int", .base (.int i), kit_ty (by decide +kernel), true, rfl, if_pos_of rfl ?_⟩
      refine ⟨_, rfl, .int i, .ty "bool", .type "int", .type "bool", false, rfl, .ty "bool", .base (.int i), kit_ty (by decide +kernel), false, rfl, true, rfl, if_pos_of rfl ?_⟩
      refine ⟨_, rfl, _, rfl, _, _, rfl, rfl, _, rfl, ?_⟩
      by_cases h1 : lo ≤ i
      · refine if_pos_of (decide_eq_true h1) ⟨_, rfl, _, _, rfl, rfl, ?_⟩
        rw [show decide (lo ≤ i ∧ i ≤ hi) = decide (i ≤ hi) from decide_eq_decide.mpr ⟨fun z => z.2, fun z => ⟨h1, z⟩⟩] at q
        exact q
      · refine if_neg_of (by rw [decide_eq_false h1]; decide) ?_
        rw [show decide (lo ≤ i ∧ i ≤ hi) = false from decide_eq_false fun z => h1 z.1] at q
        exact q
    · refine ⟨_, rfl, .bl b, .ty "int", .type "bool", .type "int", true, rfl, .ty "int", .base (.bl b), kit_ty (by decide +kernel), true, rfl, if_pos_of rfl ?_⟩
      exact ⟨_, rfl, .bl b, .ty "bool", .type "bool", .type "bool", true, rfl, .ty "bool", .base (.bl b), kit_ty (by decide +kernel), true, rfl, false, rfl, if_neg_of (by decide) q⟩
    · exact ⟨_, rfl, x, .ty "int", .type t, .type "int", false, rfl, .ty "int", ty, kit_ty hk, false, rfl, if_neg_of (by decide) q⟩
end
end SWL
set_option Elab.async false
set_option linter.all false
set_option maxRecDepth 100000
set_option maxHeartbeats 4000000
namespace SWL
open PySem PySem.Spec PyProof.Rows L2 LamX
/-! the numbers' keeper: what it has met -/
theorem wl_ : ¬ (("words_met" : Str) = "lots_met") := by decide +kernel
theorem lw_ : ¬ (("lots_met" : Str) = "words_met") := by decide +kernel
def tkf (a b : Addr) : List (Str × V) := putF "lots_met" (.ref b) (putF "words_met" (.ref a) [])
theorem tkf_words (a b : Addr) : (tkf a b).lookup ("words_met" : Str) = some (.ref a) := by
  unfold tkf
  rw [lookup_putF, if_neg wl_, lookup_putF, if_pos rfl]
theorem tkf_lots (a b : Addr) : (tkf a b).lookup ("lots_met" : Str) = some (.ref b) := by
  unfold tkf
  rw [lookup_putF, if_pos rfl]
theorem tkf_no (a b : Addr) {m : Str} (h1 : ¬ m = "lots_met") (h2 : ¬ m = "words_met") : (tkf a b).lookup m = none := by
  unfold tkf
  rw [lookup_putF, if_neg h1, lookup_putF, if_neg h2]
  rfl
/-- the class -/
structure TkC (K : PySem.W.Frag) (mg : Str → Option Value) (C fN : Addr) : Prop where
  cl : Cls K C
  nW : NoAttr K C "words_met"
  nL : NoAttr K C "lots_met"
  mN : Meth K C "number" fN
abbrev Met := List ((Nat × Str) × Nat)
def keyV (e : Nat × Str) : List Key := [.inl ((e.1 : Nat) : Int), .inr e.2]
theorem keyV_inj {e e' : Nat × Str} (h : keyV e = keyV e') : e = e' := by
  unfold keyV at h
  have h1 := (List.cons.inj h).1
  have h2 := (List.cons.inj (List.cons.inj h).2).1
  have e1 := Sum.inl.inj h1
  exact Prod.ext (by omega) (Sum.inr.inj h2)
def kvs (M : Met) : List (List Key × V) := M.map fun e => (keyV e.1, .int ((e.2 : Nat) : Int))
theorem val_kvs (e : Nat × Str) : ∀ M : Met, (valV (kvs M) (keyV e) = none ∧ ∀ i, (e, i) ∉ M) ∨ ∃ i : Nat, valV (kvs M) (keyV e) = some (.int ((i : Nat) : Int)) ∧ (e, i) ∈ M
  | [] => .inl ⟨rfl, fun i h => by cases h⟩
  | (e', i') :: M => by
    have ih := val_kvs e M
    by_cases c : e' = e
    · subst c
      exact .inr ⟨i', valV_pos rfl, List.mem_cons_self⟩
    · have cn : ¬ keyV e' = keyV e := fun z => c (keyV_inj z)
      have ev : valV (kvs ((e', i') :: M)) (keyV e) = valV (kvs M) (keyV e) := valV_neg cn
      rw [ev]
      rcases ih with ⟨h1, h2⟩ | ⟨i, h1, h2⟩
      · refine .inl ⟨h1, fun i h => ?_⟩
        rcases List.mem_cons.mp h with z | z
        · exact c (Prod.mk.inj z).1.symm
        · exact h2 i z
      · exact .inr ⟨i, h1, List.mem_cons_of_mem _ h2⟩
def partKey (p : Nat × Ids) : NestedKey := .tup [.text (sg p.1), .num ((p.2.1 : Nat) : Int), .num ((p.2.2.1 : Nat) : Int), .num ((p.2.2.2.1 : Nat) : Int), .num ((p.2.2.2.2 : Nat) : Int)]
def lotKey (l : LotK) : NestedKey := .tup [.num ((l.1 : Nat) : Int), .tup (l.2.map partKey)]
theorem partKey_inj {p q : Nat × Ids} (h : partKey p = partKey q) : p = q := by
  have h := NestedKey.tup.inj h
  simp only [List.cons.injEq, NestedKey.text.injEq, NestedKey.num.injEq, and_true] at h
  obtain ⟨h1, h2, h3, h4, h5⟩ := h
  exact Prod.ext (sg_inj h1) (Prod.ext (by omega) (Prod.ext (by omega) (Prod.ext (by omega) (by omega))))
theorem lotKey_inj {l k : LotK} (h : lotKey l = lotKey k) : l = k := by
  have h := NestedKey.tup.inj h
  simp only [List.cons.injEq, NestedKey.num.injEq, and_true] at h
  obtain ⟨h1, h2⟩ := h
  have h2 := NestedKey.tup.inj h2
  exact Prod.ext (by omega) ((map_inj_at (fun a b z => partKey_inj z) h2).1)
theorem lotKey_depth (l : LotK) : (lotKey l).depth ≤ 8 := by
  have e : ∀ ps : List (Nat × Ids), NestedKey.depthAll (ps.map partKey) ≤ 1 := by
    intro ps
    induction ps with
    | nil => exact Nat.zero_le _
    | cons p ps ih =>
      rw [List.map_cons, NestedKey.depthAll]
      have : (partKey p).depth = 1 := rfl
      omega
  have e1 := e l.2
  have e2 : (lotKey l).depth = max 0 (max (NestedKey.depthAll (l.2.map partKey) + 1) 0) + 1 := rfl
  omega
structure TkAt (P : Program) (w : World) (C : Addr) (H : Hp) (x a b : Addr) (M : Met) (L : List LotK) : Prop where
  obj : ∃ dx, H x = some (.ins C dx (tkf a b))
  met : H a = some (.dT (kvs M))
  lots : ∃ rows : List NRow, H b = some (NDO P w b rows) ∧ KeysAt H rows ∧ rows.map (·.1) = L.map lotKey ∧ ∀ (i : Nat) (r : NRow), rows[i]? = some r → r.2.2 = .int ((i + 1 : Nat) : Int)
  good : ∀ e ∈ M, Rel L e.1.1 e.1.2.cps.toList e.2
  ndM : (M.map (·.1)).Nodup
  ndL : L.Nodup
theorem KeysAt.keep {H H' : Hp} (g : ∀ b xs, H b = some (.tup xs) → H' b = some (.tup xs)) {rows : List NRow} (h : KeysAt H rows) : KeysAt H' rows := fun r hr => ⟨NkAt.keep g _ (h r hr).1, (h r hr).2⟩
theorem TkAt.grows {P : Program} {w : World} {C x a b : Addr} {H H' : Hp} {M : Met} {L : List LotK} (g : Grows H H') (t : TkAt P w C H x a b M L) : TkAt P w C H' x a b M L := by
  obtain ⟨dx, h1⟩ := t.obj
  obtain ⟨rows, h2, h3, h4⟩ := t.lots
  exact ⟨⟨dx, g _ _ h1⟩, g _ _ t.met, ⟨rows, g _ _ h2, h3.keep fun b xs e => g _ _ e, h4⟩, t.good, t.ndM, t.ndL⟩
/-- a text's numbers, told to a word of m letters -/
def spN (P : Program) (w : World) (C : Addr) : Nat → Sp
  | 0 => fun _ _ _ _ => False
  | m + 1 => fun vs H Q _ => ∃ (x a b : Addr) (M : Met) (L : List LotK) (n : Nat) (z : Str) (U : List Wl), vs = [.ref x, .int ((n : Nat) : Int), .str z] ∧ TkAt P w C H x a b M L ∧ L.length ≤ M.length ∧ n ≤ 4 ∧ z.length ≤ m ∧ m ≤ 60 ∧ z.cps.toList ∈ U ∧ Fct U ∧ U.length ≤ 100000 ∧
    (∀ e ∈ M, e.1.1 ≤ 4 ∧ e.1.2.cps.toList ∈ U) ∧ ∀ (H' : Hp) (M' : Met) (L' : List LotK) (i : Nat), TkAt P w C H' x a b M' L' → L'.length ≤ M'.length → (∀ (k : Nat) (l : LotK), L[k]? = some l → L'[k]? = some l) → Rel L' n z.cps.toList i → But H H' a b →
      (∀ e ∈ M', e ∈ M ∨ (e.1.2.length ≤ z.length ∧ e.1.1 ≤ 4 ∧ e.1.2.cps.toList ∈ U)) → Q (.int ((i : Nat) : Int)) H'
theorem str_eq {y z : Str} (h : y.cps.toList = z.cps.toList) : y = z := by
  cases y with | mk a => cases z with | mk b =>
  have : a = b := Array.toList_inj.mp h
  rw [this]
theorem met_len {M : Met} {U : List Wl} (nd : (M.map (·.1)).Nodup) (h : ∀ e ∈ M, e.1.1 ≤ 4 ∧ e.1.2.cps.toList ∈ U) : M.length ≤ 5 * U.length := by
  let D : List (Nat × Wl) := (List.range 5).flatMap fun n => U.map fun u => (n, u)
  have dl : D.length = 5 * U.length := by
    show ((List.range 5).flatMap fun n => U.map fun u => (n, u)).length = _
    rw [List.length_flatMap]
    simp only [List.length_map]
    show (U.length + (U.length + (U.length + (U.length + (U.length + 0))))) = _
    omega
  have inj : ∀ l : List (Nat × Str), l.Nodup → (l.map fun e => (e.1, e.2.cps.toList)).Nodup := by
    intro l
    induction l with
    | nil => intro _; exact .nil
    | cons e l ih =>
      intro h
      obtain ⟨h1, h2⟩ := List.nodup_cons.mp h
      rw [List.map_cons]
      refine List.nodup_cons.mpr ⟨fun m => ?_, ih h2⟩
      obtain ⟨e', he, q⟩ := List.mem_map.mp m
      obtain ⟨q1, q2⟩ := Prod.mk.inj q
      have : e' = e := Prod.ext q1 (str_eq q2)
      rw [this] at he
      exact h1 he
  have := len_within _ D (inj _ nd) fun y hy => by
    obtain ⟨e, he, rfl⟩ := List.mem_map.mp hy
    obtain ⟨e0, he0, rfl⟩ := List.mem_map.mp he
    obtain ⟨h1, h2⟩ := h e0 he0
    exact List.mem_flatMap.mpr ⟨e0.1.1, List.mem_range.mpr (by omega), List.mem_map.mpr ⟨_, h2, rfl⟩⟩
  rw [List.length_map, List.length_map, dl] at this
  exact this
theorem cut_to (z : Str) (i : Nat) : (cutS z none (some ((i : Nat) : Int))).cps.toList = z.cps.toList.take i := by
  have h1 : HT.sIx z.length 0 none = 0 := rfl
  have h2 : HT.sIx z.length z.length (some ((i : Nat) : Int)) = min i z.length := HT.sIx_nat _ _ i
  unfold cutS
  rw [h1, h2]
  show (z.cps.toList.drop 0).take (min i z.length - 0) = _
  rw [List.drop_zero, Nat.sub_zero]
  by_cases h : i ≤ z.length
  · rw [Nat.min_eq_left h]
  · have e : z.cps.toList.length = z.length := cut_len z
    rw [Nat.min_eq_right (by omega), List.take_of_length_le (by omega), List.take_of_length_le (by omega)]
theorem cut_from (z : Str) (i : Nat) : (cutS z (some ((i : Nat) : Int)) none).cps.toList = z.cps.toList.drop i := by
  have h1 : HT.sIx z.length 0 (some ((i : Nat) : Int)) = min i z.length := HT.sIx_nat _ _ i
  have h2 : HT.sIx z.length z.length none = z.length := rfl
  have e : z.cps.toList.length = z.length := cut_len z
  unfold cutS
  rw [h1, h2]
  show (z.cps.toList.drop (min i z.length)).take (z.length - min i z.length) = _
  by_cases h : i ≤ z.length
  · rw [Nat.min_eq_left h]
    exact List.take_of_length_le (by rw [List.length_drop]; omega)
  · rw [Nat.min_eq_right (by omega), List.drop_eq_nil_of_le (by omega), List.drop_eq_nil_of_le (by omega), List.take_nil]
/-- what is not the keeper's is written: it stays -/
theorem TkAt.keep {P : Program} {w : World} {C x a b : Addr} {H H' : Hp} {M : Met} {L : List LotK} (t : TkAt P w C H x a b M L) (g : ∀ c, c = x ∨ c = a ∨ c = b → ∀ o, H c = some o → H' c = some o) (gt : ∀ c xs, H c = some (.tup xs) → H' c = some (.tup xs)) : TkAt P w C H' x a b M L := by
  obtain ⟨dx, h1⟩ := t.obj
  obtain ⟨rows, h2, h3, h4⟩ := t.lots
  exact ⟨⟨dx, g _ (.inl rfl) _ h1⟩, g _ (.inr (.inl rfl)) _ t.met, ⟨rows, g _ (.inr (.inr rfl)) _ h2, h3.keep gt, h4⟩, t.good, t.ndM, t.ndL⟩
theorem valN_some {k : NestedKey} {v : V} : ∀ {rows : List NRow}, valN rows k = some v → ∃ (i : Nat) (r : NRow), rows[i]? = some r ∧ r.1 = k ∧ r.2.2 = v
  | [], h => by cases h
  | r :: rows, h => by
    unfold valN at h
    by_cases c : r.1 = k
    · rw [List.find?_cons_of_pos (by exact decide_eq_true c)] at h
      exact ⟨0, r, rfl, c, Option.some.inj h⟩
    · rw [List.find?_cons_of_neg (by simpa using c)] at h
      obtain ⟨i, r', h1, h2⟩ := valN_some (rows := rows) h
      exact ⟨i + 1, r', h1, h2⟩
theorem valN_none {k : NestedKey} : ∀ {rows : List NRow}, valN rows k = none → ∀ r ∈ rows, r.1 ≠ k
  | [], _, r, hr => by cases hr
  | r0 :: rows, h, r, hr => by
    unfold valN at h
    by_cases c : r0.1 = k
    · rw [List.find?_cons_of_pos (by exact decide_eq_true c)] at h
      cases h
    · rw [List.find?_cons_of_neg (by simpa using c)] at h
      rcases List.mem_cons.mp hr with rfl | hr
      · exact c
      · exact valN_none (rows := rows) h r hr
/-- the tuple of a part -/
def PtAt (H : Hp) (t : Addr) (p : Nat × Ids) : Prop := H t = some (.tup [.str (sg p.1), .int ((p.2.1 : Nat) : Int), .int ((p.2.2.1 : Nat) : Int), .int ((p.2.2.2.1 : Nat) : Int), .int ((p.2.2.2.2 : Nat) : Int)])
theorem pts_keep {H H' : Hp} (g : ∀ c xs, H c = some (.tup xs) → H' c = some (.tup xs)) : ∀ {ts : List Addr} {ps : List (Nat × Ids)}, Paired (PtAt H) ts ps → Paired (PtAt H') ts ps
  | _, _, .nil => .nil
  | _, _, .cons h t => .cons (g _ _ h) (pts_keep g t)
theorem pts_all {H : Hp} : ∀ {ts : List Addr} {ps : List (Nat × Ids)}, Paired (PtAt H) ts ps → NkAll H (ts.map V.ref) (ps.map partKey)
  | _, _, .nil => .nil
  | _, _, .cons h t => .cons (.tup h (.cons (.str _) (.cons (.int _) (.cons (.int _) (.cons (.int _) (.cons (.int _) .nil)))))) (pts_all t)
theorem TkAt.tups {P : Program} {w : World} {C x a b : Addr} {H H' : Hp} {M : Met} {L : List LotK} (t : TkAt P w C H x a b M L) (k : But H H' a b) : ∀ c xs, H c = some (.tup xs) → H' c = some (.tup xs) := fun c xs e => by
  obtain ⟨rows, h2, _⟩ := t.lots
  exact k c _ e (ne_of e t.met (by intro z; cases z)) (ne_of e h2 (by unfold NDO; intro z; cases z))
theorem TkAt.ab {P : Program} {w : World} {C x a b : Addr} {H : Hp} {M : Met} {L : List LotK} (t : TkAt P w C H x a b M L) : a ≠ b ∧ x ≠ a ∧ x ≠ b := by
  obtain ⟨rows, h2, _⟩ := t.lots
  obtain ⟨dx, h1⟩ := t.obj
  exact ⟨ne_of t.met h2 (by unfold NDO; intro z; cases z), ne_of h1 t.met (by intro z; cases z), ne_of h1 h2 (by unfold NDO; intro z; cases z)⟩
theorem TkAt.lst {P : Program} {w : World} {C x a b D : Addr} {H : Hp} {M : Met} {L : List LotK} {xs ys : List V} (t : TkAt P w C H x a b M L) (h : H D = some (.lst xs)) : TkAt P w C (upd H D (.lst ys)) x a b M L := by
  obtain ⟨rows, h2, _⟩ := t.lots
  obtain ⟨dx, h1⟩ := t.obj
  refine t.keep (fun c hc o e => ?_) fun c zs e => by rw [upd_ne (ne_of e h (by intro z; cases z))]; exact e
  rw [upd_ne ?_]
  · exact e
  · rcases hc with rfl | rfl | rfl
    · exact ne_of h1 h (by intro z; cases z)
    · exact ne_of t.met h (by intro z; cases z)
    · exact ne_of h2 h (by unfold NDO; intro z; cases z)
end SWL
set_option Elab.async false
set_option linter.all false
set_option maxRecDepth 100000
set_option maxHeartbeats 8000000
namespace SWL
open PySem PySem.Spec PyProof.Rows L2 LamX
def spInit (P : Program) (w : World) (C : Addr) : Sp := fun vs H Q _ => ∃ x dx, vs = [.ref x] ∧ H x = some (.ins C dx []) ∧ ∀ (H' : Hp) (a b : Addr), TkAt P w C H' x a b [] [] → a ≠ x → b ≠ x → H a = none → H b = none → (∀ c o, c ≠ x → H c = some o → H' c = some o) → Q .non H'
section
variable {P : Program} {w : World} {K : PySem.W.Frag} {mg : Str → Option Value} {base : Heap}
theorem scInit : FnScope ["self"] ["self"] (defScope sInit) := ⟨rfl, rfl, rfl, by decide +kernel, rfl, by decide +kernel, by decide +kernel⟩
theorem ok_init {f C fN : Addr} {fd : FuncData} (F : L2.Fun K "__init__" "TurnKeys.__init__" sInit f fd) (T : TkC K mg C fN) : FnOk P w K mg base CX0 1 f fd ["self"] (spInit P w C) := by
  refine F.ok scInit (fun vs H Q E h => ?_) (fun cdv A outer s H vs Q E hr h => ⟨_, pss_cons (ps_fld (pv 0) pe_dnewT rfl) (pss_one (ps_fld (pv 0) pe_dnewN rfl)), ?_⟩)
  · obtain ⟨x, dx, rfl, _⟩ := h
    rfl
  · obtain ⟨x, dx, rfl, hx, q⟩ := h
    intro a na
    have ax : a ≠ x := (ne_of_none hx na).symm
    refine ⟨_, rfl, x, C, dx, [], rfl, by rw [upd_ne ax.symm]; exact hx, T.cl, T.nW, by show 0 < 1000; decide, ?_⟩
    intro b nb
    have bx : b ≠ x := fun e => by
      rw [e, upd_same] at nb
      cases nb
    rw [upd_ne bx] at nb
    have ba : b ≠ a := fun e => by
      rw [e, upd_same] at nb
      cases nb
    rw [upd_ne ba] at nb
    refine ⟨_, rfl, x, C, dx, _, rfl, by rw [upd_ne bx.symm, upd_same], T.cl, T.nL, by show 1 < 1000; decide, ?_⟩
    refine q _ a b ⟨⟨dx, upd_same⟩, ?_, ⟨[], ?_, (fun r hr => by cases hr), rfl, (fun i r h => by cases h)⟩, (fun e he => by cases he), List.nodup_nil, List.nodup_nil⟩ ax bx na nb fun c o cx e => ?_
    · rw [upd_ne ax, upd_ne ba.symm, upd_ne ax, upd_same]
      rfl
    · rw [upd_ne bx, upd_same]
      rfl
    · rw [upd_ne cx, upd_ne (ne_of_none e nb), upd_ne cx, upd_ne (ne_of_none e na)]
      exact e
end
end SWL
set_option Elab.async false
set_option linter.all false
set_option maxRecDepth 100000
set_option maxHeartbeats 16000000
namespace SWL
open PySem PySem.Spec PyProof.Rows L2 LamX
theorem signs_few {z : Str} {S : List Str} (nd : S.Nodup) (g : SignsOf z.cps.toList S) : S.length ≤ z.length := by
  have := len_within S (z.cps.toList.map fun c => (⟨#[c]⟩ : Str)) nd fun y hy => by
    obtain ⟨c, hc, rfl⟩ := (g y).mp hy
    exact List.mem_map.mpr ⟨c, hc, rfl⟩
  rw [List.length_map, cut_len] at this
  exact this
/-- sorted(set(word)) -/
theorem go_signs {P : Program} {w : World} {i : Nat} {σ : L2.St} {H : Hp} {Q : VK} {z : Str} (hi : σ[i]? = some (some (.str z))) (hz : z.length ≤ 60) (q : ∀ (H' : Hp) (p : Addr), Grows H H' → H p = none → H' p = some (.lst ((sgn z.cps.toList).map fun c => V.str (sg c))) → (sgn z.cps.toList).length ≤ z.length → Q (.ref p) H') :
    tCB (rSortTx P w) (tCons (tCB (rSetTx P w) (tCons (tVar i) tNil)) tNil) σ H Q := by
  refine ⟨_, hi, z, rfl, (by have : scanBound = 4096 := rfl; omega), fun p S np nd g => ?_⟩
  have gp : Grows H (upd H p (TxO P w p S)) := Grows.new np
  refine ⟨p, z.cps.toList, S, rfl, upd_same, g, by have := signs_few nd g; omega, fun cs p2 rise mem np2 => ?_⟩
  have gp2 : Grows (upd H p (TxO P w p S)) (upd (upd H p (TxO P w p S)) p2 (.lst (cs.map fun c => V.str ⟨#[c]⟩))) := Grows.new np2
  have ecs : cs = sgn z.cps.toList := rise_eq rise (rise_sgn _) fun c => by rw [mem, mem_sgn]
  subst ecs
  refine q _ p2 (gp.trans gp2) ?_ upd_same ?_
  · cases e : H p2 with
    | none => rfl
    | some o => rw [gp _ _ e] at np2; cases np2
  · have := signs_few (S := (sgn z.cps.toList).map sg) (z := z) ?_ ?_
    · rw [List.length_map] at this
      exact this
    · have nd : (sgn z.cps.toList).Nodup := (rise_sgn _).imp fun h => Nat.ne_of_lt h
      exact List.Pairwise.map sg (fun c d h e => h (sg_inj e)) nd
    · intro y
      constructor
      · intro hy
        obtain ⟨c, hc, rfl⟩ := List.mem_map.mp hy
        exact ⟨c, (mem c).mp hc, rfl⟩
      · rintro ⟨c, hc, rfl⟩
        exact List.mem_map.mpr ⟨c, (mem c).mpr hc, rfl⟩
section
variable {P : Program} {w : World} {K : PySem.W.Frag} {mg : Str → Option Value} {base : Heap}
theorem scNumber : FnScope ["self", "n", "word", "parts", "letter", "first", "last"] ["self", "n", "word"] (defScope sNumber) := ⟨rfl, rfl, rfl, by decide +kernel, rfl, by decide +kernel, by decide +kernel⟩
theorem nW_ : ¬ (("number" : Str) = "lots_met") := by decide +kernel
theorem nL_ : ¬ (("number" : Str) = "words_met") := by decide +kernel
theorem ok_number {f C : Addr} {fd : FuncData} (F : L2.Fun K "number" "TurnKeys.number" sNumber f fd) (B : Blt mg) (T : TkC K mg C f) (bN : Binds K fd ["self", "n", "word"] []) : ∀ m, FnOk P w K mg base CX0 (m + 1) f fd ["self", "n", "word"] (spN P w C m)
  | 0 => ⟨fun _ _ _ _ h => h.elim, fun _ _ _ _ _ _ _ _ _ _ _ _ _ h => h.elim⟩
  | m + 1 => by
    have G := ok_number F B T bN m
    refine F.ok scNumber (fun vs H Q E h => ?_) (fun cdv A outer s H vs Q E hr h => ⟨_,
      pss_cons (ps_if (pt_cmpR op_eq (pv 1) pe_int (nomark _)) (pss_one (ps_ret pe_int)) pss_nil)
      (pss_cons (ps_if (pt_cmp (pc_dnotin (by have := hr.un; show (A.deeper _).units + 1 < _; omega) (pe_tup (pa_cons (pv 1) (pa_cons (pv 2) pa_nil))) (pe_fld (pv 0) rfl)) (by decide))
        (pss_cons (ps_set (i := 3) scNumber.nd rfl (Or.inl rfl) (pe_lst pa_nil))
        (pss_cons (ps_for PassesOwn.never rfl (pi_list (pe_callB (cr_sortedTx rfl) (by rfl) B.sorted (by decide +kernel) (pa_cons (pe_callTy (cr_setTx rfl) (by rfl) B.set (by decide +kernel) (pa_cons (pv 2) pa_nil)) pa_nil))) (pg_name (i := 4) scNumber.nd rfl (Or.inl rfl))
          (pss_cons (ps_par (i := 5) (j := 6) rfl scNumber.nd rfl rfl (by decide) rfl rfl (pa_cons (pe_m1 PySem.F.slot_str_index PySem.F.type_str_index mt_index (pv 2) (pv 4)) (pa_cons (pe_m1 PySem.F.slot_str_rindex PySem.F.type_str_rindex mt_rindex (pv 2) (pv 4)) pa_nil)) rfl)
          (pss_one (ps_expr (pe_bm PySem.F.plainAttrs_list PySem.F.slot_list_append PySem.F.type_list_append mt_append (pv 3) (pa_cons (pe_tup (pa_cons (pv 4)
            (pa_cons (pe_meth (pv 0) T.cl T.mN G hr bN .nil pass0 (pa_cons (pv 1) (pa_cons (pe_slice sl_str (pv 2) po_none (po_some (pv 5))) pa_nil)))
            (pa_cons (pe_meth (pv 0) T.cl T.mN G hr bN .nil pass0 (pa_cons (pe_op op_sub (pv 1) pe_int) (pa_cons (pe_slice sl_str (pv 2) (po_some (pe_op op_add (pv 5) pe_int)) po_none) pa_nil)))
            (pa_cons (pe_meth (pv 0) T.cl T.mN G hr bN .nil pass0 (pa_cons (pe_op op_sub (pv 1) pe_int) (pa_cons (pe_slice sl_str (pv 2) po_none (po_some (pv 6))) pa_nil)))
            (pa_cons (pe_meth (pv 0) T.cl T.mN G hr bN .nil pass0 (pa_cons (pv 1) (pa_cons (pe_slice sl_str (pv 2) (po_some (pe_op op_add (pv 6) pe_int)) po_none) pa_nil))) pa_nil)))))) pa_nil))))))
        (pss_one (ps_dput (by have := hr.un; show (A.deeper _).units + 1 < _; omega) (pe_fld (pv 0) rfl) (pe_tup (pa_cons (pv 1) (pa_cons (pv 2) pa_nil)))
          (pe_dsetdN (by have := hr.un; show (A.deeper _).units + 16 < _; omega) (pe_fld (pv 0) rfl) (pe_tup (pa_cons (pv 1) (pa_cons (pe_callTy call_tuple_of (by rfl) B.tuple (by decide +kernel) (pa_cons (pv 3) pa_nil)) pa_nil))) (pe_op op_add (pe_callB cr_lenN (by rfl) B.len PySem.boot_len (pa_cons (pe_fld (pv 0) rfl) pa_nil)) pe_int) ⟨by rfl, by rfl, by rfl, by rfl⟩) rfl)))) pss_nil)
      (pss_one (ps_ret (pe_dget (by have := hr.un; show (A.deeper _).units + 1 < _; omega) (pe_fld (pv 0) rfl) (pe_tup (pa_cons (pv 1) (pa_cons (pv 2) pa_nil))) (fun _ _ => rfl))))), ?_⟩)
    · obtain ⟨x, a, b, M, L, n, z, U, rfl, _⟩ := h
      rfl
    · obtain ⟨x, a, b, M, L, n, z, U, rfl, t, hLM, hn, hz, hm, hU, fU, lU, kU, q⟩ := h
      have sz : sizeLine = 16777216 := sizeLine_eq
      refine ⟨_, rfl, rfl, _, rfl, ?_⟩
      by_cases h0 : n = 0
      · subst h0
        exact if_pos_of (decide_eq_true rfl) (q H M L 0 t hLM (fun _ _ e => e) (.zero _) (But.refl H a b) fun e he => .inl he)
      refine if_neg_of (by rw [decide_eq_false (fun e => h0 (by have := V.int.inj e; omega))]; decide) ?_
      obtain ⟨n, rfl⟩ : ∃ k, n = k + 1 := ⟨n - 1, by omega⟩
      have n1 : ∀ y : V, (V.ref x :: ([V.int (((n + 1 : Nat) : Int) - 1), y] ++ [])) = [V.ref x, V.int ((n : Nat) : Int), y] := fun y => by
        rw [show (((n + 1 : Nat) : Int) - 1) = ((n : Nat) : Int) by omega]
        rfl
      obtain ⟨dx, hx⟩ := t.obj
      refine ⟨_, rfl, _, rfl, by show 2 ≤ sizeLine; decide, fun t1 nt1 => ?_⟩
      have g1 : Grows H (upd H t1 (.tup [.int ((n + 1 : Nat) : Int), .str z])) := Grows.new nt1
      have k1 : upd H t1 (.tup [.int ((n + 1 : Nat) : Int), .str z]) t1 = some (.tup ((keyV (n + 1, z)).map kV)) := upd_same
      generalize upd H t1 (.tup [.int ((n + 1 : Nat) : Int), .str z]) = H1 at g1 k1 ⊢
      refine ⟨_, rfl, x, C, dx, _, _, rfl, g1 _ _ hx, T.cl, T.nW, tkf_words a b, a, _, rfl, DGet.t (g1 _ _ t.met) k1, _, rfl, ?_⟩
      rcases val_kvs (n + 1, z) M with ⟨v0, no⟩ | ⟨i, v1, yes⟩
      · refine if_pos_of (by rw [v0]; rfl) ?_
        refine ⟨by show 0 ≤ sizeLine; decide, fun D nD => ?_⟩
        have gD : Grows H1 (upd H1 D (.lst [])) := Grows.new nD
        have kD : upd H1 D (.lst []) D = some (.lst []) := upd_same
        generalize upd H1 D (.lst []) = H2 at gD kD ⊢
        have nD3 : H D = none := by
          cases e : H D with
          | none => rfl
          | some o => rw [g1 _ _ e] at nD; cases nD
        refine go_signs (P := P) (w := w) rfl (by omega) fun H4 p2 gs np2 kp2 csl => ?_
        have np2H : H p2 = none := by
          cases e : H p2 with
          | none => rfl
          | some o => rw [gD _ _ (g1 _ _ e)] at np2; cases np2
        have Dp2 : D ≠ p2 := ne_of_none kD np2
        generalize hcs : sgn z.cps.toList = cs at kp2 csl
        have mem : ∀ c, c ∈ cs ↔ c ∈ z.cps.toList := fun c => by rw [← hcs, mem_sgn]
        have g4 := (g1.trans gD).trans gs
        have kD4 := gs _ _ kD
        have Da : D ≠ a := fun e => by rw [e, t.met] at nD3; cases nD3
        have Db : D ≠ b := fun e => by
          obtain ⟨rows, hb, _⟩ := t.lots
          rw [e, hb] at nD3
          cases nD3
        have Dx : D ≠ x := fun e => by rw [e, hx] at nD3; cases nD3
        have p2a : p2 ≠ a := fun e => by rw [e, t.met] at np2H; cases np2H
        have p2b : p2 ≠ b := fun e => by
          obtain ⟨rows, hb, _⟩ := t.lots
          rw [e, hb] at np2H
          cases np2H
        refine ⟨p2, rfl, ⟨_, .inl (.inl kp2)⟩, for_list (K := K) (a := p2) (xs := cs.map fun c => V.str (sg c)) (fun j σ H' => ∃ (v4 v5 v6 : Option V) (M' : Met) (L' : List LotK) (ts : List Addr) (ps : List (Nat × Ids)), σ = [some (.ref x), some (.int ((n + 1 : Nat) : Int)), some (.str z), some (.ref D), v4, v5, v6] ∧ TkAt P w C H' x a b M' L' ∧ L'.length ≤ M'.length ∧ (∀ (k : Nat) (l : LotK), L[k]? = some l → L'[k]? = some l) ∧ But H H' a b ∧
          (∀ e ∈ M', e ∈ M ∨ (e.1.2.length < z.length ∧ e.1.1 ≤ 4 ∧ e.1.2.cps.toList ∈ U)) ∧ H' D = some (.lst (ts.map V.ref)) ∧ H' p2 = some (.lst (cs.map fun c => V.str (sg c))) ∧ ps.map (·.1) = cs.take j ∧ Paired (PtAt H') ts ps ∧
          (∀ q ∈ ps, Rel L' (n + 1) (bf q.1 z.cps.toList) q.2.1 ∧ Rel L' n (af q.1 z.cps.toList) q.2.2.1 ∧ Rel L' n (bl q.1 z.cps.toList) q.2.2.2.1 ∧ Rel L' (n + 1) (al q.1 z.cps.toList) q.2.2.2.2))
          ⟨none, none, none, M, L, [], [], rfl, t.grows g4, hLM, fun _ _ e => e, But.of g4, fun e he => .inl he, kD4, kp2, rfl, .nil, fun q hq => by cases hq⟩ (fun j σ H' _ h => by obtain ⟨_, _, _, _, _, _, _, _, _, _, _, _, _, _, k, _⟩ := h; exact .inl (.inl k)) ?_ ?_⟩
        · rintro j y σ H5 hj ⟨v4, v5, v6, M5, L5, ts, ps, rfl, t5, hLM5, ext5, but5, new5, kD5, kp5, hps, hpt, rel5⟩
          rw [List.getElem?_map] at hj
          obtain ⟨c, hcj, rfl⟩ : ∃ c, cs[j]? = some c ∧ y = V.str (sg c) := by
            cases e : cs[j]? with
            | none => rw [e] at hj; cases hj
            | some c => rw [e] at hj; exact ⟨c, rfl, (Option.some.inj hj).symm⟩
          have hcW : c ∈ z.cps.toList := (mem c).mp (List.mem_of_getElem? hcj)
          have zl : z.cps.toList.length = z.length := cut_len z
          have zpos : 1 ≤ z.length := by rw [← zl]; exact List.length_pos_of_mem hcW
          obtain ⟨m, rfl⟩ : ∃ k, m = k + 1 := ⟨m - 1, by omega⟩
          refine ⟨_, rfl, ⟨_, rfl⟩, _, rfl, z, c, rfl, rfl, hcW, fun i hi1 hi2 => ⟨_, rfl, ⟨_, rfl⟩, _, rfl, z, c, rfl, rfl, hcW, fun l hl1 hl2 => ⟨_, _, rfl, ?_⟩⟩⟩
          obtain ⟨b1, b2⟩ := bf_at hi1 hi2
          obtain ⟨b3, b4⟩ := bl_at hl1 hl2
          obtain ⟨u1, u2, u3, u4⟩ := fU _ hU c hcW
          have l1 := bf_len hcW
          have l2 := bl_len hcW
          have w1 : (cutS z none (some ((i : Nat) : Int))).cps.toList = bf c z.cps.toList := by rw [cut_to, b1]
          have w2 : (cutS z (some (((i + 1 : Nat)) : Int)) none).cps.toList = af c z.cps.toList := by rw [cut_from, b2]
          have w3 : (cutS z none (some ((l : Nat) : Int))).cps.toList = bl c z.cps.toList := by rw [cut_to, b3]
          have w4 : (cutS z (some (((l + 1 : Nat)) : Int)) none).cps.toList = al c z.cps.toList := by rw [cut_from, b4]
          have y1 : (cutS z none (some ((i : Nat) : Int))).length < z.length := by rw [← cut_len, w1]; omega
          have y2 : (cutS z (some (((i + 1 : Nat)) : Int)) none).length < z.length := by rw [← cut_len, w2]; omega
          have y3 : (cutS z none (some ((l : Nat) : Int))).length < z.length := by rw [← cut_len, w3]; omega
          have y4 : (cutS z (some (((l + 1 : Nat)) : Int)) none).length < z.length := by rw [← cut_len, w4]; omega
          have k5 : ∀ e ∈ M5, e.1.1 ≤ 4 ∧ e.1.2.cps.toList ∈ U := fun e he => by
            rcases new5 e he with h | h
            · exact kU e h
            · exact h.2
          -- number(n, word[:first])
          obtain ⟨dx5, hx5⟩ := t5.obj
          refine ⟨_, rfl, .inl ⟨rfl, _, .inl (.inl kD5)⟩, _, rfl, _, rfl, x, dx5, _, rfl, hx5, tkf_no a b nW_ nL_, _, rfl, _, rfl, _, rfl, _, rfl, z, rfl, by omega, x, a, b, M5, L5, n + 1, _, U, rfl, t5, hLM5, hn, by omega, by omega, by rw [w1]; exact u1, fU, lU, k5, fun H6 M6 L6 i1 t6 hLM6 ext6 rel6 but6 new6 => ?_⟩
          have k6 : ∀ e ∈ M6, e.1.1 ≤ 4 ∧ e.1.2.cps.toList ∈ U := fun e he => by
            rcases new6 e he with h | h
            · exact k5 e h
            · exact h.2
          obtain ⟨dx6, hx6⟩ := t6.obj
          refine ⟨_, rfl, x, dx6, _, rfl, hx6, tkf_no a b nW_ nL_, _, rfl, _, _, rfl, rfl, _, rfl, _, rfl, _, _, rfl, rfl, _, rfl, ?_⟩
          dsimp only [tNoPart]
          refine ⟨z, rfl, by omega, x, a, b, M6, L6, n, cutS z (some (((i + 1 : Nat)) : Int)) none, U, (n1 _), t6, hLM6, by omega, by omega, by omega, by rw [w2]; exact u2, fU, lU, k6, fun H7 M7 L7 i2 t7 hLM7 ext7 rel7 but7 new7 => ?_⟩
          have k7 : ∀ e ∈ M7, e.1.1 ≤ 4 ∧ e.1.2.cps.toList ∈ U := fun e he => by
            rcases new7 e he with h | h
            · exact k6 e h
            · exact h.2
          obtain ⟨dx7, hx7⟩ := t7.obj
          -- number(n - 1, word[:last])
          refine ⟨_, rfl, x, dx7, _, rfl, hx7, tkf_no a b nW_ nL_, _, rfl, _, _, rfl, rfl, _, rfl, _, rfl, _, rfl, z, rfl, by omega, x, a, b, M7, L7, n, cutS z none (some ((l : Nat) : Int)), U, (n1 _), t7, hLM7, by omega, by omega, by omega, by rw [w3]; exact u3, fU, lU, k7, fun H8 M8 L8 i3 t8 hLM8 ext8 rel8 but8 new8 => ?_⟩
          have k8 : ∀ e ∈ M8, e.1.1 ≤ 4 ∧ e.1.2.cps.toList ∈ U := fun e he => by
            rcases new8 e he with h | h
            · exact k7 e h
            · exact h.2
          obtain ⟨dx8, hx8⟩ := t8.obj
          refine ⟨_, rfl, x, dx8, _, rfl, hx8, tkf_no a b nW_ nL_, _, rfl, _, rfl, _, rfl, _, _, rfl, rfl, _, rfl, ?_⟩
          dsimp only [tNoPart]
          refine ⟨z, rfl, by omega, x, a, b, M8, L8, n + 1, cutS z (some (((l + 1 : Nat)) : Int)) none, U, rfl, t8, hLM8, hn, by omega, by omega, by rw [w4]; exact u4, fU, lU, k8, fun H9 M9 L9 i4 t9 hLM9 ext9 rel9 but9 new9 => ?_⟩
          rw [w1] at rel6
          rw [w2] at rel7
          rw [w3] at rel8
          rw [w4] at rel9
          have but59 := ((but6.trans but7).trans but8).trans but9
          have ext79 : ∀ (k : Nat) (l : LotK), L7[k]? = some l → L9[k]? = some l := fun k l e => ext9 k l (ext8 k l e)
          have ext69 : ∀ (k : Nat) (l : LotK), L6[k]? = some l → L9[k]? = some l := fun k l e => ext79 k l (ext7 k l e)
          have ext59 : ∀ (k : Nat) (l : LotK), L5[k]? = some l → L9[k]? = some l := fun k l e => ext69 k l (ext6 k l e)
          have kD9 := but59 D _ kD5 Da Db
          have kp9 := but59 p2 _ kp5 p2a p2b
          have hpt9 := pts_keep (t5.tups but59) hpt
          have tsl : ts.length = ps.length := paired_len hpt
          have psl : ps.length ≤ cs.length := by
            have := congrArg List.length hps
            rw [List.length_map, List.length_take] at this
            omega
          refine ⟨by show 5 ≤ sizeLine; decide, fun t0 nt0 => ?_⟩
          have gt : Grows H9 (upd H9 t0 (.tup [.str (sg c), .int ((i1 : Nat) : Int), .int ((i2 : Nat) : Int), .int ((i3 : Nat) : Int), .int ((i4 : Nat) : Int)])) := Grows.new nt0
          have kt0 : PtAt (upd H9 t0 (.tup [.str (sg c), .int ((i1 : Nat) : Int), .int ((i2 : Nat) : Int), .int ((i3 : Nat) : Int), .int ((i4 : Nat) : Int)])) t0 (c, i1, i2, i3, i4) := upd_same
          generalize upd H9 t0 (.tup [.str (sg c), .int ((i1 : Nat) : Int), .int ((i2 : Nat) : Int), .int ((i3 : Nat) : Int), .int ((i4 : Nat) : Int)]) = H10 at gt kt0 ⊢
          have kD10 := gt _ _ kD9
          refine ⟨D, _, _, rfl, rfl, kD10, by rw [List.length_map]; omega, ?_⟩
          have tupK : ∀ q zs, H10 q = some (.tup zs) → upd H10 D (.lst (ts.map V.ref ++ [V.ref t0])) q = some (.tup zs) := fun q zs e => by rw [upd_ne (ne_of e kD10 (by intro z; cases z))]; exact e
          refine ⟨_, _, _, M9, L9, ts ++ [t0], ps ++ [(c, i1, i2, i3, i4)], rfl, (t9.grows gt).lst kD10, hLM9, fun k l e => ext59 k l (ext5 k l e), ?_, ?_, ?_, ?_, ?_, ?_, ?_⟩
          · intro q o e qa qb
            have e9 := but59 q o (but5 q o e qa qb) qa qb
            rw [upd_ne (ne_of_none e nD3)]
            exact gt _ _ e9
          · intro e he
            rcases new9 e he with h | ⟨h, h'⟩
            · rcases new8 e h with h | ⟨h, h'⟩
              · rcases new7 e h with h | ⟨h, h'⟩
                · rcases new6 e h with h | ⟨h, h'⟩
                  · exact new5 e h
                  · exact .inr ⟨by omega, h'⟩
                · exact .inr ⟨by omega, h'⟩
              · exact .inr ⟨by omega, h'⟩
            · exact .inr ⟨by omega, h'⟩
          · rw [upd_same, List.map_append]
            rfl
          · rw [upd_ne Dp2.symm]
            exact gt _ _ kp9
          · rw [List.map_append, hps, take_snoc hcj]
            rfl
          · exact paired_snoc (pts_keep tupK (pts_keep (fun q zs e => gt _ _ e) hpt9)) (tupK _ _ kt0)
          · intro q hq
            rcases List.mem_append.mp hq with h | h
            · obtain ⟨r1, r2, r3, r4⟩ := rel5 q h
              exact ⟨r1.more ext59, r2.more ext59, r3.more ext59, r4.more ext59⟩
            · rw [List.mem_singleton.mp h]
              exact ⟨rel6.more ext69, rel7.more ext79, rel8.more ext9, rel9⟩
        · rintro σ H5 ⟨v4, v5, v6, M5, L5, ts, ps, rfl, t5, hLM5, ext5, but5, new5, kD5, kp5, hps, hpt, rel5⟩
          have hps' : ps.map (·.1) = sgn z.cps.toList := by
            rw [hps, hcs]
            exact List.take_of_length_le (by rw [List.length_map]; exact Nat.le_refl _)
          have k5 : ∀ e ∈ M5, e.1.1 ≤ 4 ∧ e.1.2.cps.toList ∈ U := fun e he => by
            rcases new5 e he with h | h
            · exact kU e h
            · exact h.2
          have no5 : ∀ i, ((n + 1, z), i) ∉ M5 := fun i hi => by
            rcases new5 _ hi with h | ⟨h, _⟩
            · exact no i h
            · exact absurd h (Nat.lt_irrefl _)
          have v5' : valV (kvs M5) (keyV (n + 1, z)) = none := by
            rcases val_kvs (n + 1, z) M5 with ⟨h, _⟩ | ⟨i, _, h⟩
            · exact h
            · exact absurd h (no5 i)
          have lenM := met_len t5.ndM k5
          obtain ⟨dx5, hx5⟩ := t5.obj
          obtain ⟨rows, hb5, hk5, hr1, hr2⟩ := t5.lots
          obtain ⟨ab, xa, xb⟩ := t5.ab
          have rl : rows.length = L5.length := by
            have := congrArg List.length hr1
            rw [List.length_map, List.length_map] at this
            exact this
          refine ⟨_, rfl, x, C, dx5, _, _, rfl, hx5, T.cl, T.nL, tkf_lots a b, b, rfl, ⟨rows, hb5⟩, _, rfl, _, rfl, D, _, rfl, .inl ⟨.inl (.inl kD5), fun T1 nT1 => ?_⟩⟩
          have gT1 : Grows H5 (upd H5 T1 (.tup (ts.map V.ref))) := Grows.new nT1
          have kT1 : upd H5 T1 (.tup (ts.map V.ref)) T1 = some (.tup (ts.map V.ref)) := upd_same
          generalize upd H5 T1 (.tup (ts.map V.ref)) = H6 at gT1 kT1 ⊢
          refine ⟨by show 2 ≤ sizeLine; decide, fun T2 nT2 => ?_⟩
          have gT2 : Grows H6 (upd H6 T2 (.tup [.int ((n + 1 : Nat) : Int), .ref T1])) := Grows.new nT2
          have kT2 : upd H6 T2 (.tup [.int ((n + 1 : Nat) : Int), .ref T1]) T2 = some (.tup [.int ((n + 1 : Nat) : Int), .ref T1]) := upd_same
          generalize upd H6 T2 (.tup [.int ((n + 1 : Nat) : Int), .ref T1]) = H7 at gT2 kT2 ⊢
          have g57 := gT1.trans gT2
          have hb7 := g57 _ _ hb5
          have hk7 : KeysAt H7 rows := hk5.keep fun q zs e => g57 _ _ e
          have nk : NkAt H7 (.ref T2) (lotKey (n + 1, ps)) := .tup kT2 (.cons (.int _) (.cons (.tup (gT2 _ _ kT1) (pts_all (pts_keep (fun q zs e => g57 _ _ e) hpt))) .nil))
          refine ⟨_, rfl, x, C, dx5, _, _, rfl, g57 _ _ hx5, T.cl, T.nL, tkf_lots a b, b, rows, rfl, hb7, hk7, _, _, rfl, rfl, rows, T2, lotKey (n + 1, ps), hb7, hk7, rfl, nk, lotKey_depth _, by omega, ?_⟩
          refine setd_one (fun v Hx => ∃ (k : Nat) (L6 : List LotK), v = .int ((k + 1 : Nat) : Int) ∧ TkAt P w C Hx x a b M5 L6 ∧ L6.length ≤ M5.length + 1 ∧ (∀ (k : Nat) (l : LotK), L5[k]? = some l → L6[k]? = some l) ∧ L6[k]? = some (n + 1, ps) ∧ But H7 Hx a b) ?_ (fun v hv => ?_) (fun hno => ?_)
          · rintro v Hx ⟨k, L6, rfl, t6, hL6, ext6, hk, but6⟩
            obtain ⟨dx6, hx6⟩ := t6.obj
            refine ⟨_, rfl, x, C, dx6, _, _, rfl, hx6, T.cl, T.nW, tkf_words a b, _, rfl, _, rfl, by show 2 ≤ sizeLine; decide, fun T3 nT3 => ?_⟩
            have gT3 : Grows Hx (upd Hx T3 (.tup [.int ((n + 1 : Nat) : Int), .str z])) := Grows.new nT3
            have kT3 : upd Hx T3 (.tup [.int ((n + 1 : Nat) : Int), .str z]) T3 = some (.tup ((keyV (n + 1, z)).map kV)) := upd_same
            generalize upd Hx T3 (.tup [.int ((n + 1 : Nat) : Int), .str z]) = Hy at gT3 kT3 ⊢
            have t7 := t6.grows gT3
            refine ⟨a, _, rfl, DPut.t t7.met kT3 (by show (M5.map _).length < _; rw [List.length_map]; omega), ?_⟩
            have eput : putK (kvs M5) (keyV (n + 1, z)) (V.int ((k + 1 : Nat) : Int)) = kvs (M5 ++ [((n + 1, z), k + 1)]) := by
              rw [putK_new _ v5']
              unfold kvs
              rw [List.map_append]
              rfl
            rw [eput]
            have rel : Rel L6 (n + 1) z.cps.toList (k + 1) := .succ ps hps' (fun q hq => (rel5 q hq).1.more ext6) (fun q hq => (rel5 q hq).2.1.more ext6) (fun q hq => (rel5 q hq).2.2.1.more ext6) (fun q hq => (rel5 q hq).2.2.2.more ext6) hk
            obtain ⟨rows7, r71, r72, r73, r74⟩ := t7.lots
            have tupK : ∀ q zs, Hy q = some (.tup zs) → upd Hy a (.dT (kvs (M5 ++ [((n + 1, z), k + 1)]))) q = some (.tup zs) := fun q zs e => by rw [upd_ne (ne_of e t7.met (by intro z; cases z))]; exact e
            have t8 : TkAt P w C (upd Hy a (.dT (kvs (M5 ++ [((n + 1, z), k + 1)])))) x a b (M5 ++ [((n + 1, z), k + 1)]) L6 := by
              refine ⟨⟨dx6, by rw [upd_ne xa]; exact gT3 _ _ hx6⟩, upd_same, ⟨rows7, by rw [upd_ne ab.symm]; exact r71, r72.keep tupK, r73, r74⟩, fun e he => ?_, ?_, t7.ndL⟩
              · rcases List.mem_append.mp he with h | h
                · exact t7.good e h
                · rw [List.mem_singleton.mp h]
                  exact rel
              · rw [List.map_append]
                refine List.nodup_append.mpr ⟨t7.ndM, (by simp), fun e he e' he' c => ?_⟩
                rw [List.mem_singleton.mp he'] at c
                obtain ⟨⟨e1, i1⟩, h1, rfl⟩ := List.mem_map.mp he
                exact no5 i1 (by have c' : e1 = (n + 1, z) := c; rw [c'] at h1; exact h1)
            generalize hHz : upd Hy a (.dT (kvs (M5 ++ [((n + 1, z), k + 1)]))) = Hz at t8 ⊢
            obtain ⟨dx8, hx8⟩ := t8.obj
            refine ⟨_, rfl, x, C, dx8, _, _, rfl, hx8, T.cl, T.nW, tkf_words a b, _, rfl, _, rfl, by show 2 ≤ sizeLine; decide, fun T4 nT4 => ?_⟩
            have gT4 : Grows Hz (upd Hz T4 (.tup [.int ((n + 1 : Nat) : Int), .str z])) := Grows.new nT4
            have kT4 : upd Hz T4 (.tup [.int ((n + 1 : Nat) : Int), .str z]) T4 = some (.tup ((keyV (n + 1, z)).map kV)) := upd_same
            generalize upd Hz T4 (.tup [.int ((n + 1 : Nat) : Int), .str z]) = Hw at gT4 kT4 ⊢
            have t9 := t8.grows gT4
            have dg := DGet.t t9.met kT4
            have vv : valV (kvs (M5 ++ [((n + 1, z), k + 1)])) (keyV (n + 1, z)) = some (V.int ((k + 1 : Nat) : Int)) := by
              rw [← eput, valV_put, if_pos rfl]
            rw [vv] at dg
            refine ⟨a, _, rfl, dg, q Hw _ L6 (k + 1) t9 (by rw [List.length_append]; exact hL6) (fun k l e => ext6 k l (ext5 k l e)) rel (fun c o e ca cb => ?_) fun e he => ?_⟩
            · have e2 := gT3 _ _ (but6 c o (g57 _ _ (but5 c o e ca cb)) ca cb)
              refine gT4 _ _ ?_
              rw [← hHz, upd_ne ca]
              exact e2
            · rcases List.mem_append.mp he with h | h
              · rcases new5 e h with h | ⟨h, h'⟩
                · exact .inl h
                · exact .inr ⟨Nat.le_of_lt h, h'⟩
              · rw [List.mem_singleton.mp h]
                exact .inr ⟨Nat.le_refl _, hn, hU⟩
          · obtain ⟨i, r, hi, hk, hv'⟩ := valN_some hv
            have e1 : (rows.map (·.1))[i]? = some (lotKey (n + 1, ps)) := by rw [List.getElem?_map, hi, ← hk]; rfl
            rw [hr1, List.getElem?_map] at e1
            cases el : L5[i]? with
            | none => rw [el] at e1; cases e1
            | some l =>
              rw [el] at e1
              have := lotKey_inj (Option.some.inj e1)
              subst this
              exact ⟨i, L5, by rw [← hv', hr2 i r hi], t5.grows g57, by omega, fun _ _ e => e, el, But.refl _ _ _⟩
          · have nl : (n + 1, ps) ∉ L5 := fun hm => by
              have : lotKey (n + 1, ps) ∈ rows.map (·.1) := by rw [hr1]; exact List.mem_map.mpr ⟨_, hm, rfl⟩
              obtain ⟨r, hr, e⟩ := List.mem_map.mp this
              exact valN_none hno r hr e
            have t7 := t5.grows g57
            have tupK : ∀ q zs, H7 q = some (.tup zs) → ∀ o, upd H7 b o q = some (.tup zs) := fun q zs e o => by rw [upd_ne (ne_of e hb7 (by unfold NDO; intro z; cases z))]; exact e
            refine ⟨L5.length, L5 ++ [(n + 1, ps)], by rw [rl]; rfl, ⟨⟨dx5, by rw [upd_ne xb]; exact g57 _ _ hx5⟩, by rw [upd_ne ab]; exact t7.met, ⟨rows ++ [(lotKey (n + 1, ps), T2, V.int ((rows.length : Int) + 1))], ?_, ?_, ?_, ?_⟩, fun e he => (t7.good e he).more ?_, t7.ndM, ?_⟩, by rw [List.length_append]; show L5.length + 1 ≤ _; omega, ?_, ?_, ?_⟩
            · rw [upd_same]
              rfl
            · intro r hr
              rcases List.mem_append.mp hr with h | h
              · exact ⟨NkAt.keep (fun q zs e => tupK q zs e _) _ (hk7 r h).1, (hk7 r h).2⟩
              · rw [List.mem_singleton.mp h]
                exact ⟨NkAt.keep (fun q zs e => tupK q zs e _) _ nk, lotKey_depth _⟩
            · rw [List.map_append, List.map_append, hr1]
              rfl
            · intro i r hi
              by_cases c : i < rows.length
              · rw [List.getElem?_append_left c] at hi
                exact hr2 i r hi
              · rw [List.getElem?_append_right (by omega)] at hi
                have c2 : i - rows.length = 0 := by
                  have := (List.getElem?_eq_some_iff.mp hi).1
                  simp only [List.length_singleton] at this
                  omega
                rw [c2] at hi
                have e := Option.some.inj hi
                rw [← e]
                show V.int ((rows.length : Int) + 1) = V.int ((i + 1 : Nat) : Int)
                rw [show ((i + 1 : Nat) : Int) = (rows.length : Int) + 1 by omega]
            · intro k l e
              rw [List.getElem?_append_left (List.getElem?_eq_some_iff.mp e).1]
              exact e
            · refine List.nodup_append.mpr ⟨t7.ndL, (by simp), fun e he e' he' c => ?_⟩
              rw [List.mem_singleton.mp he'] at c
              rw [c] at he
              exact nl he
            · intro k l e
              rw [List.getElem?_append_left (List.getElem?_eq_some_iff.mp e).1]
              exact e
            · rw [List.getElem?_append_right (Nat.le_refl _), Nat.sub_self]
              rfl
            · intro c o e ca cb
              rw [upd_ne cb]
              exact e
      · refine if_neg_of (by rw [v1]; exact Bool.false_ne_true) ?_
        refine ⟨_, rfl, x, C, dx, _, _, rfl, g1 _ _ hx, T.cl, T.nW, tkf_words a b, _, rfl, _, rfl, by show 2 ≤ sizeLine; decide, fun t2 nt2 => ?_⟩
        have g2 : Grows H1 (upd H1 t2 (.tup [.int ((n + 1 : Nat) : Int), .str z])) := Grows.new nt2
        have k2 : upd H1 t2 (.tup [.int ((n + 1 : Nat) : Int), .str z]) t2 = some (.tup ((keyV (n + 1, z)).map kV)) := upd_same
        generalize upd H1 t2 (.tup [.int ((n + 1 : Nat) : Int), .str z]) = H2 at g2 k2 ⊢
        have g12 := g1.trans g2
        have dg := DGet.t (g12 _ _ t.met) k2
        rw [v1] at dg
        exact ⟨a, _, rfl, dg, q H2 M L i (t.grows g12) hLM (fun _ _ e => e) (t.good _ yes) (But.of g12) fun e he => .inl he⟩
end
end SWL
set_option Elab.async false
set_option linter.all false
set_option maxRecDepth 100000
set_option maxHeartbeats 8000000
namespace SWL
open PySem PySem.Spec PyProof.Rows L2 LamX
def alikeB (n : Nat) (u v : Wl) : Bool := NestedKey.beq (keyK n u) (keyK n v)
theorem alikeB_iff {n : Nat} {u v : Wl} : alikeB n u v = true ↔ Alike n u v := by
  unfold alikeB Alike
  rw [← NestedKey.decide_eq, decide_eq_true_eq]
def BadL (K : PySem.W.Frag) (H : Hp) (x : V) : Prop := NotStr K H x ∨ ∃ z, x = .str z ∧ z.length ≤ sizeLine ∧ okLetters z = false
def BadT (K : PySem.W.Frag) (H : Hp) (x : V) : Prop := NotNum K H x ∨ ∃ i, x = .int i ∧ ¬ (0 ≤ i ∧ i ≤ 4)
def BadW (K : PySem.W.Frag) (H : Hp) (ls : Str) (x : V) : Prop := NotStr K H x ∨ ∃ z, x = .str z ∧ z.length ≤ sizeLine ∧ okWord ls z 20000 = false
theorem BadW.grows {K : PySem.W.Frag} {H H' : Hp} (g : Grows H H') {ls : Str} {x : V} (h : BadW K H ls x) : BadW K H' ls x := h.imp (fun h => h.grows g) id
theorem BadT.grows {K : PySem.W.Frag} {H H' : Hp} (g : Grows H H') {x : V} (h : BadT K H x) : BadT K H' x := h.imp (fun h => h.grows g) id
def spNeedT (K : PySem.W.Frag) (CN CM : Addr) : Sp := fun vs H Q E => ∃ x y, vs = [x, y] ∧ ((BadL K H x ∧ ∀ H', Grows H H' → E (.ref CN) none H') ∨ ∃ ls, x = .str ls ∧ ls.length ≤ sizeLine ∧ okLetters ls = true ∧
  ((BadT K H y ∧ ∀ H', Grows H H' → E (.ref CM) none H') ∨ ∃ n : Nat, y = .int n ∧ n ≤ 4 ∧ ∀ H', Grows H H' → Q .non H'))
def spAlike (K : PySem.W.Frag) (CN CM CW : Addr) : Sp := fun vs H Q E => ∃ x y u v, vs = [x, y, u, v] ∧ ((BadL K H x ∧ ∀ H', Grows H H' → E (.ref CN) none H') ∨ ∃ ls, x = .str ls ∧ ls.length ≤ sizeLine ∧ okLetters ls = true ∧
  ((BadT K H y ∧ ∀ H', Grows H H' → E (.ref CM) none H') ∨ ∃ n : Nat, y = .int n ∧ n ≤ 4 ∧ ((BadW K H ls u ∧ ∀ H', Grows H H' → E (.ref CW) none H') ∨ ∃ z1, u = .str z1 ∧ z1.length ≤ 60 ∧ okWord ls z1 20000 = true ∧
  ((BadW K H ls v ∧ ∀ H', Grows H H' → E (.ref CW) none H') ∨ ∃ z2, v = .str z2 ∧ z2.length ≤ 60 ∧ okWord ls z2 20000 = true ∧ ∀ H', Grows H H' → Q (.bl (alikeB n z1.cps.toList z2.cps.toList)) H'))))
section
variable {P : Program} {w : World} {K : PySem.W.Frag} {mg : Str → Option Value} {base : Heap}
theorem scNeedT : FnScope ["letters", "n"] ["letters", "n"] (defScope sNeedT) := ⟨rfl, rfl, rfl, by decide +kernel, rfl, by decide +kernel, by decide +kernel⟩
theorem ok_needT {f f1 f2 CN CM CS : Addr} {fd fd1 fd2 : FuncData} (F : L2.Fun K "need_turns" "need_turns" sNeedT f fd) (B : Blt mg) (EM : ErrC K mg "NoNumber" CM CS)
    (G1 : FnOk P w K mg base (L2.CX P w) 3 f1 fd1 ["thing"] (spNeedL K CN)) (D1 : Def mg K "need_letters" f1 fd1 ["thing"])
    (G2 : FnOk P w K mg base CX0 1 f2 fd2 ["thing", "least", "most"] (spIsNum K)) (D2 : Def mg K "is_number" f2 fd2 ["thing", "least", "most"]) : FnOk P w K mg base (L2.CX P w) 4 f fd ["letters", "n"] (spNeedT K CN CM) := by
  refine F.okX scNeedT (fun vs H Q E h => ?_) (fun cdv A outer s H vs Q E hr h => ⟨_,
    pss_cons (ps_expr (pe_call G1 (hr.mono (by decide)) (by rfl) D1.g D1.k D1.b .nil (passes_call (takes_of rfl rfl rfl rfl) fun _ _ _ _ h => h) (pa_cons (pv 0) pa_nil)))
    (pss_one (ps_if (pt_not (pt_truth (pe_call G2 (hr.mono (by decide)) (by rfl) D2.g D2.k D2.b .nil pass0 (pa_cons (pv 1) (pa_cons pe_int (pa_cons (pe_glob (v := .int 4) (by rfl) B.mostT.choose_spec ⟨_, rfl⟩) pa_nil)))) (by intro _; rfl)))
      (pss_one (ps_raise rfl (takes_of rfl rfl rfl rfl) (pmk_own PySem.F.excBase_ValueError EM.xC EM.gC EM.kC (raises_own EM.bC EM.tC) rfl))) pss_nil)), ?_⟩)
  · obtain ⟨x, y, rfl, _⟩ := h
    rfl
  · obtain ⟨x, y, rfl, h⟩ := h
    refine ⟨_, rfl, x, rfl, ?_⟩
    rcases h with ⟨h | ⟨z, rfl, hz, hb⟩, e⟩ | ⟨ls, rfl, hls, hok, h⟩
    · exact .inr ⟨h, e H (Grows.refl H)⟩
    · exact .inl ⟨z, rfl, hz, fun H' g => ⟨(fun c => by rw [hb] at c; cases c), fun _ => e H' g⟩⟩
    · refine .inl ⟨ls, rfl, hls, fun H1 g1 => ⟨fun _ => ?_, fun c => by rw [hok] at c; cases c⟩⟩
      refine ⟨_, rfl, y, 0, 4, rfl, ?_⟩
      rcases h with ⟨n | ⟨i, rfl, hi⟩, e⟩ | ⟨n, rfl, hn, q⟩
      · exact .inr ⟨n.grows g1, false, rfl, if_pos_of (by decide) (e H1 g1)⟩
      · exact .inl ⟨i, rfl, _, rfl, if_pos_of (by rw [decide_eq_false hi]; decide) (e H1 g1)⟩
      · exact .inl ⟨(n : Nat), rfl, _, rfl, if_neg_of (by rw [decide_eq_true ⟨by omega, by omega⟩]; decide) (q H1 g1)⟩
theorem scAlike : FnScope ["letters", "n", "one", "other", "keys"] ["letters", "n", "one", "other"] (defScope sAlike) := ⟨rfl, rfl, rfl, by decide +kernel, rfl, by decide +kernel, by decide +kernel⟩
theorem ok_alike {f f1 f2 fI fN C CN CM CW : Addr} {fd fd1 fd2 fdI fdN : FuncData} (F : L2.Fun K "turn_alike" "turn_alike" sAlike f fd) (T : TkC K mg C fN) (M : Mk K C fI) (mgC : mg "TurnKeys" = some (.ref C))
    (GI : FnOk P w K mg base CX0 1 fI fdI ["self"] (spInit P w C)) (bI : Binds K fdI ["self"] []) (GN : FnOk P w K mg base CX0 62 fN fdN ["self", "n", "word"] (spN P w C 61)) (bN : Binds K fdN ["self", "n", "word"] [])
    (G1 : FnOk P w K mg base (L2.CX P w) 4 f1 fd1 ["letters", "n"] (spNeedT K CN CM)) (D1 : Def mg K "need_turns" f1 fd1 ["letters", "n"])
    (G2 : FnOk P w K mg base (L2.CX P w) 3 f2 fd2 ["letters", "thing", "most"] (spNeedW K CW)) (D2 : DefW mg K "need_word" f2 fd2 ["letters", "thing", "most"]) : FnOk P w K mg base (L2.CX P w) 63 f fd ["letters", "n", "one", "other"] (spAlike K CN CM CW) := by
  obtain ⟨ds, vd, bd⟩ := D2.b
  refine F.okX scAlike (fun vs H Q E h => ?_) (fun cdv A outer s H vs Q E hr h => ⟨_,
    pss_cons (ps_expr (pe_call G1 (hr.mono (by decide)) (by rfl) D1.g D1.k D1.b .nil (passes_call (takes_of rfl rfl rfl rfl) fun _ _ _ _ h => h) (pa_cons (pv 0) (pa_cons (pv 1) pa_nil))))
    (pss_cons (ps_expr (pe_call G2 (hr.mono (by decide)) (by rfl) D2.g D2.k bd vd (passes_call (takes_of rfl rfl rfl rfl) fun _ _ _ _ h => h) (pa_cons (pv 0) (pa_cons (pv 2) pa_nil))))
    (pss_cons (ps_expr (pe_call G2 (hr.mono (by decide)) (by rfl) D2.g D2.k bd vd (passes_call (takes_of rfl rfl rfl rfl) fun _ _ _ _ h => h) (pa_cons (pv 0) (pa_cons (pv 3) pa_nil))))
    (pss_cons (ps_set (i := 4) scAlike.nd rfl (Or.inl rfl) (pe_make0 M GI (hr.mono (by decide)) rfl mgC bI .nil pass0))
    (pss_one (ps_ret (pe_cmpR op_eq (pe_meth (pv 4) T.cl T.mN GN hr bN .nil pass0 (pa_cons (pv 1) (pa_cons (pv 2) pa_nil))) (pe_meth (pv 4) T.cl T.mN GN hr bN .nil pass0 (pa_cons (pv 1) (pa_cons (pv 3) pa_nil))) (nomark _))))))), ?_⟩)
  · obtain ⟨x, y, u, v, rfl, _⟩ := h
    rfl
  · obtain ⟨x, y, u, v, rfl, h⟩ := h
    have sz : sizeLine = 16777216 := sizeLine_eq
    refine ⟨_, rfl, _, rfl, x, y, rfl, ?_⟩
    rcases h with h | ⟨ls, rfl, hls, hok, h | ⟨n, rfl, hn, h⟩⟩
    · exact .inl h
    · exact .inr ⟨ls, rfl, hls, hok, .inl h⟩
    refine .inr ⟨ls, rfl, hls, hok, .inr ⟨n, rfl, hn, fun H1 g1 => ?_⟩⟩
    refine ⟨_, rfl, _, rfl, ls, u, 20000, rfl, ?_⟩
    rcases h with ⟨h | ⟨z, rfl, hz, hb⟩, e⟩ | ⟨z1, rfl, hz1, hw1, h⟩
    · exact .inr ⟨h.grows g1, e H1 g1⟩
    · exact .inl ⟨z, rfl, hz, fun H' g => ⟨(fun c => by rw [hb] at c; cases c), fun _ => e H' (g1.trans g)⟩⟩
    refine .inl ⟨z1, rfl, by omega, fun H2 g2 => ⟨fun _ => ?_, fun c => by rw [hw1] at c; cases c⟩⟩
    have g12 := g1.trans g2
    refine ⟨_, rfl, _, rfl, ls, v, 20000, rfl, ?_⟩
    rcases h with ⟨h | ⟨z, rfl, hz, hb⟩, e⟩ | ⟨z2, rfl, hz2, hw2, q⟩
    · exact .inr ⟨h.grows g12, e H2 g12⟩
    · exact .inl ⟨z, rfl, hz, fun H' g => ⟨(fun c => by rw [hb] at c; cases c), fun _ => e H' (g12.trans g)⟩⟩
    refine .inl ⟨z2, rfl, by omega, fun H3 g3 => ⟨fun _ => ?_, fun c => by rw [hw2] at c; cases c⟩⟩
    have g13 := g12.trans g3
    intro x dx nx ndx nex
    refine ⟨x, dx, rfl, upd_same, fun H4 a b t4 ax bx na nb k4 => ⟨rfl, ?_⟩⟩
    have H3x : ∀ c o, H3 c = some o → H4 c = some o := fun c o e => by
      have c1 := ne_of_none e nx
      have c2 := ne_of_none e ndx
      refine k4 c o c1 ?_
      rw [upd_ne c1, upd_ne c2]
      exact e
    have na3 : H3 a = none := by
      cases e : H3 a with
      | none => rfl
      | some o =>
        rw [upd_ne ax, upd_ne (ne_of_none e ndx), e] at na
        cases na
    have nb3 : H3 b = none := by
      cases e : H3 b with
      | none => rfl
      | some o =>
        rw [upd_ne bx, upd_ne (ne_of_none e ndx), e] at nb
        cases nb
    obtain ⟨dx4, hx4⟩ := t4.obj
    have U1 : z1.cps.toList ∈ facts1 z1.cps.toList ++ facts1 z2.cps.toList := List.mem_append_left _ (self_facts _)
    have U2 : z2.cps.toList ∈ facts1 z1.cps.toList ++ facts1 z2.cps.toList := List.mem_append_right _ (self_facts _)
    have fU : Fct (facts1 z1.cps.toList ++ facts1 z2.cps.toList) := fct_app (facts_fct _) (facts_fct _)
    have lU : (facts1 z1.cps.toList ++ facts1 z2.cps.toList).length ≤ 100000 := by
      rw [List.length_append, facts_len, facts_len, cut_len, cut_len]
      have h1 : (z1.length + 1) * (z1.length + 1) ≤ 61 * 61 := Nat.mul_le_mul (by omega) (by omega)
      have h2 : (z2.length + 1) * (z2.length + 1) ≤ 61 * 61 := Nat.mul_le_mul (by omega) (by omega)
      omega
    generalize facts1 z1.cps.toList ++ facts1 z2.cps.toList = U at fU lU U1 U2
    refine ⟨_, rfl, x, dx4, _, rfl, hx4, tkf_no a b nW_ nL_, _, rfl, _, rfl, x, a, b, [], [], n, z1, U, rfl, t4, Nat.le_refl _, hn, hz1, Nat.le_refl _, U1, fU, lU, (fun e he => by cases he), fun H5 M5 L5 i t5 hLM5 ext5 rel5 but5 new5 => ?_⟩
    have k5 : ∀ e ∈ M5, e.1.1 ≤ 4 ∧ e.1.2.cps.toList ∈ U := fun e he => by
      rcases new5 e he with h | h
      · cases h
      · exact h.2
    obtain ⟨dx5, hx5⟩ := t5.obj
    refine ⟨_, rfl, x, dx5, _, rfl, hx5, tkf_no a b nW_ nL_, _, rfl, _, rfl, x, a, b, M5, L5, n, z2, U, rfl, t5, hLM5, hn, hz2, Nat.le_refl _, U2, fU, lU, k5, fun H6 M6 L6 j t6 hLM6 ext6 rel6 but6 new6 => ?_⟩
    have g6 : Grows H H6 := fun c o e => by
      have e3 := g13 c o e
      have ca := ne_of_none e3 na3
      have cb := ne_of_none e3 nb3
      exact but6 c o (but5 c o (H3x c o e3) ca cb) ca cb
    have e := rel_iff t6.ndL (rel5.more ext6) rel6
    refine ⟨rfl, ?_⟩
    have ev : decide (V.int ((i : Nat) : Int) = V.int ((j : Nat) : Int)) = alikeB n z1.cps.toList z2.cps.toList := by
      rw [Bool.eq_iff_iff, decide_eq_true_eq, alikeB_iff, ← e]
      exact ⟨fun h => by have := V.int.inj h; omega, fun h => by rw [h]⟩
    rw [ev]
    exact q H6 g6
end
end SWL
set_option Elab.async false
set_option linter.all false
set_option maxRecDepth 100000
set_option maxHeartbeats 8000000
namespace SWL
open PySem PySem.Spec PyProof.Rows L2 LamX
/-! the word for what was caught -/
def WordOf (K : PySem.W.Frag) (D CG CN CW CM : Addr) (R : Str → Prop) : Prop := PySem.W.kitOne K (.ref D) (.ref CG) = some false ∧ ((PySem.W.kitOne K (.ref D) (.ref CN) = some true ∧ R "letters") ∨ (PySem.W.kitOne K (.ref D) (.ref CN) = some false ∧
  ((PySem.W.kitOne K (.ref D) (.ref CW) = some true ∧ R "word") ∨ (PySem.W.kitOne K (.ref D) (.ref CW) = some false ∧ PySem.W.kitOne K (.ref D) (.ref CM) = some true ∧ R "number"))))
def TWord (K : PySem.W.Frag) (CS CG CN CW CM : Addr) : (XK → Hp → VK → Prop) → Hp → VK → Prop := fun tl H Q => ∀ Qf : VK,
  tl (fun cls d H' => PySem.W.exmOne K cls (.ref CS) = some true ∧ ∃ D, cls = .ref D ∧ d = none ∧ ExcC K D ∧ WordOf K D CG CN CW CM fun z => ∀ a, H' a = none → Q (.str z) (upd H' a (.ext (Kept (.ref D) none a)))) H Qf
section
variable {X : Cx}
theorem scWord : FnScope ["action", "caught", "error"] ["action"] (defScope sWord) := ⟨rfl, rfl, rfl, by decide +kernel, rfl, by decide +kernel, by decide +kernel⟩
theorem word_gives {q : Str} {g CS CG CN CW CM : Addr} {cdg : Value} (isi : X.mg "isinstance" = none) (mS : X.mg "SwingError" = some (.ref CS)) (mG : X.mg "TooGreat" = some (.ref CG)) (mN : X.mg "NoLetters" = some (.ref CN)) (mW : X.mg "NoWord" = some (.ref CW)) (mM : X.mg "NoNumber" = some (.ref CM)) :
    GivesTo X ["action", "caught", "error"] "_law_word" (defScope sWord) g cdg (defBody sWord) "action" q (TWord X.K CS CG CN CW CM) := by
  intro f c' s H Q tl act hc h
  refine ⟨_, pss_cons (ps_set (X := (cxOf C8.CX0 X.prog X.w X.K X.mg X.base ["action", "caught", "error"] "_law_word" (defScope sWord) g cdg X.A X.stack s H C8.E0).nox) (i := 1) scWord.nd rfl (Or.inl rfl) pe_non)
    (pss_cons (ps_try_keep (X := (cxOf C8.CX0 X.prog X.w X.K X.mg X.base ["action", "caught", "error"] "_law_word" (defScope sWord) g cdg X.A X.stack s H C8.E0).nox) (c := .ref CS) (i := 2)
      (tb := fun W D σ H => ∃ Ech : XK, (∀ cls d σ' H', Ech cls d H' → W cls d σ' H') ∧ σ[0]? = some (some (.ref f)) ∧ H c' = some (CodeO c' q) ∧ tl Ech H fun _ H' => D.nx σ H')
      rfl rfl scWord.nd rfl rfl ⟨rfl, by decide, .inl mS⟩ (fun W pn xe tk _ => ?_) (fun a' oe cls d pn _ _ => pss_one (ps_set (i := 1) scWord.nd rfl (Or.inl rfl) (pv 2))))
    (pss_cons (ps_if (pt_truth (pe_callB call_isKept (by rfl) isi (by decide +kernel) (pa_cons (pv 1) (pa_cons (pe_glob (v := .ref CG) (by rfl) mG rfl) pa_nil))) (by intro _; rfl)) (pss_one (ps_ret pe_str)) pss_nil)
    (pss_cons (ps_if (pt_truth (pe_callB call_isKept (by rfl) isi (by decide +kernel) (pa_cons (pv 1) (pa_cons (pe_glob (v := .ref CN) (by rfl) mN rfl) pa_nil))) (by intro _; rfl)) (pss_one (ps_ret pe_str)) pss_nil)
    (pss_cons (ps_if (pt_truth (pe_callB call_isKept (by rfl) isi (by decide +kernel) (pa_cons (pv 1) (pa_cons (pe_glob (v := .ref CW) (by rfl) mW rfl) pa_nil))) (by intro _; rfl)) (pss_one (ps_ret pe_str)) pss_nil)
    (pss_cons (ps_if (pt_truth (pe_callB call_isKept (by rfl) isi (by decide +kernel) (pa_cons (pv 1) (pa_cons (pe_glob (v := .ref CM) (by rfl) mM rfl) pa_nil))) (by intro _; rfl)) (pss_one (ps_ret pe_str)) pss_nil)
    pss_no))))), ?_⟩
  · refine ⟨fun pins s' σ H' D I h' => ?_⟩
    obtain ⟨Ech, hW, h1, h2, h3⟩ := h'
    have hp := fun p1 p2 => act W pn xe Ech p1 p2 tk hW
    exact (pss_one (ps_expr (hp _ _) (by rfl))).run pins s' σ H' D I ⟨h1, h2, h3⟩
  · refine ⟨fun cls d H' => PySem.W.exmOne X.K cls (.ref CS) = some true ∧ ∃ D, cls = .ref D ∧ d = none ∧ ExcC X.K D ∧ WordOf X.K D CG CN CW CM fun z => ∀ a, H' a = none → Q (.str z) (upd H' a (.ext (Kept (.ref D) none a))), ?_, rfl, hc, ?_⟩
    · rintro cls d σ' H' ⟨e1, D, rfl, rfl, EC, wd⟩
      refine ⟨e1, fun hl a' na => ?_⟩
      obtain ⟨s0, s1, s2, rfl⟩ : ∃ s0 s1 s2, σ' = [s0, s1, s2] := by
        match σ', hl with
        | [x, y, z], _ => exact ⟨x, y, z, rfl⟩
      refine ⟨_, rfl, fun na' => ?_⟩
      obtain ⟨k1, ⟨k2, q⟩ | ⟨k2, ⟨k3, q⟩ | ⟨k3, k4, q⟩⟩⟩ := wd
      · exact ⟨_, rfl, a', D, .ref CG, .ref CG, false, rfl, upd_same, EC, (fun u r => r), k1, false, rfl, if_neg_of (by decide) ⟨_, rfl, a', D, .ref CN, .ref CN, true, rfl, upd_same, EC, (fun u r => r), k2, true, rfl, if_pos_of rfl (q a' na')⟩⟩
      · exact ⟨_, rfl, a', D, .ref CG, .ref CG, false, rfl, upd_same, EC, (fun u r => r), k1, false, rfl, if_neg_of (by decide) ⟨_, rfl, a', D, .ref CN, .ref CN, false, rfl, upd_same, EC, (fun u r => r), k2, false, rfl, if_neg_of (by decide) ⟨_, rfl, a', D, .ref CW, .ref CW, true, rfl, upd_same, EC, (fun u r => r), k3, true, rfl, if_pos_of rfl (q a' na')⟩⟩⟩
      · exact ⟨_, rfl, a', D, .ref CG, .ref CG, false, rfl, upd_same, EC, (fun u r => r), k1, false, rfl, if_neg_of (by decide) ⟨_, rfl, a', D, .ref CN, .ref CN, false, rfl, upd_same, EC, (fun u r => r), k2, false, rfl, if_neg_of (by decide) ⟨_, rfl, a', D, .ref CW, .ref CW, false, rfl, upd_same, EC, (fun u r => r), k3, false, rfl, if_neg_of (by decide) ⟨_, rfl, a', D, .ref CM, .ref CM, true, rfl, upd_same, EC, (fun u r => r), k4, true, rfl, if_pos_of rfl (q a' na')⟩⟩⟩⟩
    · exact h _
end
end SWL
set_option Elab.async false
set_option linter.all false
set_option maxRecDepth 100000
set_option maxHeartbeats 8000000
namespace SWL
open PySem PySem.Spec PyProof.Rows L2 LamX
/-! letters and words drawn -/
structure Off (H : Hp) (a g : Addr) : Prop where
  st : ∃ ks, H a = some (.dK ks)
  gr : ∃ xs, H g = some (.lst xs)
theorem SAt.off {H : Hp} {a g c : Addr} {cs : List Int} {n : Nat} (s : SAt H a g c cs n) : Off H a g := by
  obtain ⟨gs, r, t, h1, h2, _⟩ := s.ex
  exact ⟨⟨_, h1⟩, ⟨_, h2⟩⟩
def lettersL : List Str := ["ab", "ab", "a", "bz", "abc"]
def lotOk (ls : Str) : Bool := okLetters ls && decide (ls.length ≤ 3) && decide (0 < ls.length) && ls.cps.toList.all (fun c => decide (c < 128))
structure Lot (ls : Str) : Prop where
  ok : okLetters ls = true
  len : ls.length ≤ 3
  pos : 0 < ls.length
  small : ∀ c ∈ ls.cps.toList, c < 128
theorem lots_ok : lettersL.all lotOk = true := by decide +kernel
theorem lot_of {ls : Str} (h : ls ∈ lettersL) : Lot ls := by
  have e := List.all_eq_true.mp lots_ok ls h
  unfold lotOk at e
  simp only [Bool.and_eq_true, decide_eq_true_eq, List.all_eq_true] at e
  obtain ⟨⟨⟨e1, e2⟩, e3⟩, e4⟩ := e
  exact ⟨e1, e2, e3, e4⟩
def spPickS : Sp := fun vs H Q _ => ∃ (a g c : Addr) (cs : List Int) (n : Nat) (ls : Str), vs = [.ref a, .str ls] ∧ SAt H a g c cs n ∧ n ≤ 1000000 ∧ 0 < ls.length ∧ ls.length ≤ 1000000 ∧ ∀ H' d, d ∈ ls.cps.toList → SAt H' a g c cs (n + 1) → But H H' a g → Q (.str (sg d)) H'
def spSomeL : Sp := fun vs H Q _ => ∃ (a g c : Addr) (cs : List Int) (n : Nat), vs = [.ref a] ∧ SAt H a g c cs n ∧ n ≤ 1000000 ∧ ∀ H' z, z ∈ lettersL → SAt H' a g c cs (n + 1) → But H H' a g → Q (.str z) H'
/-- a word of these letters -/
def Of (ls z : Str) : Prop := ∀ d ∈ z.cps.toList, d ∈ ls.cps.toList
def spSomeW : Sp := fun vs H Q _ => ∃ (a g c : Addr) (cs : List Int) (n m : Nat) (ls : Str), vs = [.ref a, .str ls, .int (m : Nat)] ∧ 0 < ls.length ∧ ls.length ≤ 1000 ∧ m ≤ 20 ∧ SAt H a g c cs n ∧ n + 50 ≤ 1000000 ∧ ∀ H' z, Of ls z → z.length ≤ m → SAt H' a g c cs (n + 50) → But H H' a g → Q (.str z) H'
/-- so many signs drawn -/
def PickP (H1 : Hp) (a g c : Addr) (cs : List Int) (n : Nat) (ls : Str) (D : Addr) (j : Nat) (H' : Hp) : Prop := SAt H' a g c cs (n + j) ∧ But H1 H' a g ∧ ∃ ds : List Nat, ds.length = j ∧ (∀ d ∈ ds, d ∈ ls.cps.toList) ∧ H' D = some (.lst (ds.map fun d => V.str (sg d)))
theorem pick0 {H1 : Hp} {a g c D : Addr} {cs : List Int} {n : Nat} {ls : Str} (s : SAt H1 a g c cs n) (nD : H1 D = none) : PickP H1 a g c cs n ls D 0 (upd H1 D (.lst [])) :=
  ⟨s.grows (Grows.new nD), But.of (Grows.new nD), [], rfl, (fun d hd => by cases hd), upd_same⟩
theorem pickS {H1 H2 : Hp} {a g c D : Addr} {cs : List Int} {n j js jt : Nat} {ls : Str} {σ : L2.St} (s1 : SAt H1 a g c cs n) (nD : H1 D = none) (p : PickP H1 a g c cs n ls D j H2) (hs : σ[js]? = some (some (.ref a))) (ht : σ[jt]? = some (some (.str ls))) (hp : 0 < ls.length) (hl : ls.length ≤ 1000) (hn : n + j ≤ 1000000) (hj : j ≤ 1000) :
    tCall spPickS [] E0 (tCons (tVar js) (tCons (tVar jt) tNil)) σ H2 fun y H4 => ∃ acc, H4 D = some (.lst acc) ∧ acc.length < sizeLine ∧ PickP H1 a g c cs n ls D (j + 1) (upd H4 D (.lst (acc ++ [y]))) := by
  have sz : sizeLine = 16777216 := sizeLine_eq
  obtain ⟨s2, b2, ds, hdl, hds, hD⟩ := p
  have dG : D ≠ g := by
    obtain ⟨xs, hx⟩ := s1.off.gr
    exact (ne_of_none hx nD).symm
  have dA : D ≠ a := by
    obtain ⟨xs, hx⟩ := s1.off.st
    exact (ne_of_none hx nD).symm
  have dC : D ≠ c := by
    obtain ⟨_, _, _, _, _, h3, _⟩ := s1.ex
    exact (ne_of_none h3 nD).symm
  refine ⟨_, hs, _, ht, a, g, c, cs, n + j, ls, rfl, s2, hn, hp, by omega, fun H4 d hd s4 b4 => ?_⟩
  have hD4 := b4 D _ hD dA dG
  refine ⟨_, hD4, by rw [List.length_map]; omega, ?_, ?_, ds ++ [d], by rw [List.length_append, hdl]; rfl, fun e he => ?_, ?_⟩
  · obtain ⟨gs, r, t, h1, h2, h3, h4⟩ := s4.ex
    exact ⟨gs, r, t, by rw [upd_ne dA.symm]; exact h1, by rw [upd_ne dG.symm]; exact h2, by rw [upd_ne dC.symm]; exact h3, h4⟩
  · intro b o e n1 n2
    rw [upd_ne (ne_of_none e nD)]
    exact b4 b o (b2 b o e n1 n2) n1 n2
  · rcases List.mem_append.mp he with h | h
    · exact hds e h
    · rw [List.mem_singleton.mp h]
      exact hd
  · rw [upd_same, List.map_append]
    rfl
theorem join_sg (ds : List Nat) : (Txt.join "" (ds.map sg)).cps.toList = ds := by
  rw [TL.join_eq]
  refine (TL.tl_join "" (ds.map sg)).trans ?_
  have e2 : ∀ l : List Nat, TL.joinL [] ((l.map sg).map TL.tl) = l := by
    intro l
    induction l with
    | nil => rfl
    | cons c l ih =>
      cases l with
      | nil => rfl
      | cons d l =>
        show [c] ++ ([] ++ TL.joinL [] (((d :: l).map sg).map TL.tl)) = _
        rw [ih]
        rfl
  exact e2 ds
theorem sum_sg (ds : List Nat) : ((ds.map sg).map (·.length)).sum = ds.length := by
  induction ds with
  | nil => rfl
  | cons d ds ih =>
    simp only [List.map_cons, List.sum_cons, List.length_cons] at ih ⊢
    have : (sg d).length = 1 := rfl
    omega
/-- what is joined of them -/
theorem pick_join {H' : Hp} {D : Addr} {ls : Str} {ds : List Nat} (hl : ds.length ≤ 1000) (hd : ∀ d ∈ ds, d ∈ ls.cps.toList) (hD : H' D = some (.lst (ds.map fun d => V.str (sg d)))) :
    H' D = some (.lst ((ds.map sg).map V.str)) ∧ ((ds.map sg).map (·.length)).sum + (ds.map sg).length * ("" : Str).length ≤ 16777216 ∧ Of ls (Txt.join "" (ds.map sg)) ∧ (Txt.join "" (ds.map sg)).length = ds.length := by
  have e0 : ("" : Str).length = 0 := rfl
  have ej := join_sg ds
  refine ⟨hD.trans ?_, ?_, ?_, ?_⟩
  · rw [List.map_map]
    rfl
  · rw [sum_sg, e0, Nat.mul_zero]
    omega
  · intro d h
    rw [ej] at h
    exact hd d h
  · rw [← cut_len, ej]
section
variable {P : Program} {w : World} {K : PySem.W.Frag} {mg : Str → Option Value} {base : Heap}
theorem ok_pickS {f f1 : Addr} {fd fd1 : FuncData} (F : L2.Fun K "_law_pick" "_law_pick" sPick f fd) (B : Blt mg) (G : FnOk P w K mg base CX0 2 f1 fd1 ["state", "room"] spDraw) (D : Def mg K "_law_draw" f1 fd1 ["state", "room"]) : FnOk P w K mg base CX0 3 f fd ["state", "some"] spPickS := by
  refine F.ok scPick (fun vs H Q E h => ?_) (fun cdv A outer s H vs Q E hr h => ⟨_,
    pss_one (ps_ret (pe_ix ix_str (pv 1) (pe_call G hr (by rfl) D.g D.k D.b .nil pass0 (pa_cons (pv 0) (pa_cons (pe_callB call_len_str (by rfl) B.len PySem.boot_len (pa_cons (pv 1) pa_nil)) pa_nil))) (fun _ _ => rfl))), ?_⟩)
  · obtain ⟨a, g, c, cs, n, ls, rfl, _⟩ := h
    rfl
  · obtain ⟨a, g, c, cs, n, ls, rfl, hs, hn, hp, hl, q⟩ := h
    have sz : sizeLine = 16777216 := sizeLine_eq
    refine ⟨_, rfl, _, rfl, _, rfl, ls, rfl, by omega, a, g, c, cs, n, _, rfl, hs, hn, by omega, by omega, fun H' i hi hlt s' hb => ?_⟩
    obtain ⟨k, rfl⟩ : ∃ k : Nat, i = k := ⟨i.toNat, by omega⟩
    have hk : k < ls.cps.toList.length := by rw [cut_len]; omega
    exact ⟨ls, k, ls.cps.toList[k], rfl, rfl, by omega, atI_nat (List.getElem?_eq_getElem hk), q H' _ (List.getElem_mem hk) s' hb⟩
theorem scSomeL : FnScope ["state"] ["state"] (defScope sSomeL) := ⟨rfl, rfl, rfl, by decide +kernel, rfl, by decide +kernel, by decide +kernel⟩
theorem ok_someL {f f1 : Addr} {fd fd1 : FuncData} (F : L2.Fun K "_law_some_letters" "_law_some_letters" sSomeL f fd) (G : FnOk P w K mg base CX0 3 f1 fd1 ["state", "some"] spPick) (D : Def mg K "_law_pick" f1 fd1 ["state", "some"]) : FnOk P w K mg base CX0 4 f fd ["state"] spSomeL := by
  refine F.ok scSomeL (fun vs H Q E h => ?_) (fun cdv A outer s H vs Q E hr h => ⟨_,
    pss_one (ps_ret (pe_call G hr (by rfl) D.g D.k D.b .nil pass0 (pa_cons (pv 0) (pa_cons (pe_lst (pa_cons pe_str (pa_cons pe_str (pa_cons pe_str (pa_cons pe_str (pa_cons pe_str pa_nil)))))) pa_nil)))), ?_⟩)
  · obtain ⟨a, g, c, cs, n, rfl, _⟩ := h
    rfl
  · obtain ⟨a, g, c, cs, n, rfl, hs, hn, q⟩ := h
    refine ⟨_, rfl, by show 5 ≤ sizeLine; decide, fun p np => ?_⟩
    obtain ⟨gs, r, t, h1, h2, h3, h4⟩ := hs.ex
    refine ⟨a, g, c, p, cs, n, lettersL.map V.str, rfl, hs.grows (Grows.new np), hn, upd_same, (ne_of_none h2 np).symm, by decide, by decide, fun H' x hx s' hb => ?_⟩
    obtain ⟨z, hz, rfl⟩ := List.mem_map.mp hx
    exact q H' z hz s' ((But.of (Grows.new np)).trans hb)
theorem scSomeW : FnScope ["state", "letters", "most", "way", "size", "piece", "at"] ["state", "letters", "most"] (defScope sSomeW) := ⟨rfl, rfl, rfl, by decide +kernel, rfl, by decide +kernel, by decide +kernel⟩
theorem ok_someW {f f1 f2 : Addr} {fd fd1 fd2 : FuncData} (F : L2.Fun K "_law_some_word" "_law_some_word" sSomeW f fd) (B : Blt mg)
    (G1 : FnOk P w K mg base CX0 2 f1 fd1 ["state", "room"] spDraw) (D1 : Def mg K "_law_draw" f1 fd1 ["state", "room"])
    (G2 : FnOk P w K mg base CX0 3 f2 fd2 ["state", "some"] spPickS) (D2 : Def mg K "_law_pick" f2 fd2 ["state", "some"]) : FnOk P w K mg base CX0 4 f fd ["state", "letters", "most"] spSomeW := by
  refine F.ok scSomeW (fun vs H Q E h => ?_) (fun cdv A outer s H vs Q E hr h => ⟨_,
    pss_cons (ps_par (i := 3) (j := 4) rfl scSomeW.nd rfl rfl (by decide) rfl rfl (pa_cons (pe_call G1 (hr.mono (by decide)) (by rfl) D1.g D1.k D1.b .nil pass0 (pa_cons (pv 0) (pa_cons pe_int pa_nil))) (pa_cons (pe_call G1 (hr.mono (by decide)) (by rfl) D1.g D1.k D1.b .nil pass0 (pa_cons (pv 0) (pa_cons (pe_op op_add (pv 2) pe_int) pa_nil))) pa_nil)) rfl)
    (pss_cons (ps_if (pw_and (pt_cmpR op_eq (pv 3) pe_int (nomark _)) (pw_and1 (pt_cmpR op_gt (pv 4) pe_int (nomark _)))).pt
      (pss_cons (ps_set (i := 5) scSomeW.nd rfl (Or.inl rfl) (pe_join pe_str (pe_lc (own := [("at", 6)]) (g := gName 6) (tt := tYes) (te := tCall spPickS [] E0 (tCons (tVar 0) (tCons (tVar 1) tNil))) rfl scSomeW.nd (pi_range1 (by rfl) B.range (pa_cons (pe_op op_add pe_int (pe_call G1 (hr.mono (by decide)) (by rfl) D1.g D1.k D1.b .nil pass0 (pa_cons (pv 0) (pa_cons pe_int pa_nil)))) pa_nil)) (blkOk_by (N := ["state", "letters", "most", "way", "size", "piece", "at"]) (sc := defScope sSomeW) (by decide +kernel))
        (fun _ _ _ _ _ => pg_name (i := 6) scSomeW.nd rfl (Or.inl rfl)) (fun _ _ _ _ _ => pts_nil) (fun _ _ _ _ _ => pe_call G2 (hr.mono (by decide)) (by rfl) D2.g D2.k D2.b .nil pass0 (pa_cons (pv 0) (pa_cons (pv 1) pa_nil))))))
      (pss_one (ps_ret (pe_slice sl_str (pe_op op_mulS (pv 5) (pv 4)) po_none (po_some (pv 4)))))) pss_nil)
    (pss_one (ps_ret (pe_join pe_str (pe_lc (own := [("at", 6)]) (g := gName 6) (tt := tYes) (te := tCall spPickS [] E0 (tCons (tVar 0) (tCons (tVar 1) tNil))) rfl scSomeW.nd (pi_range1 (by rfl) B.range (pa_cons (pv 4) pa_nil)) (blkOk_by (N := ["state", "letters", "most", "way", "size", "piece", "at"]) (sc := defScope sSomeW) (by decide +kernel))
        (fun _ _ _ _ _ => pg_name (i := 6) scSomeW.nd rfl (Or.inl rfl)) (fun _ _ _ _ _ => pts_nil) (fun _ _ _ _ _ => pe_call G2 (hr.mono (by decide)) (by rfl) D2.g D2.k D2.b .nil pass0 (pa_cons (pv 0) (pa_cons (pv 1) pa_nil)))))))), ?_⟩)
  · obtain ⟨a, g, c, cs, n, m, ls, rfl, _⟩ := h
    rfl
  · obtain ⟨a, g, c, cs, n, m, ls, rfl, hp, hl, hm, hs, hn, q⟩ := h
    have sz : sizeLine = 16777216 := sizeLine_eq
    refine ⟨_, rfl, a, g, c, cs, n, 4, rfl, hs, by omega, by decide, by decide, fun H1 way w0 w1 s1 b1 => ?_⟩
    refine ⟨_, rfl, _, rfl, _, _, rfl, rfl, a, g, c, cs, n + 1, _, rfl, s1, by omega, by omega, by omega, fun H2 size z0 z1 s2 b2 => ⟨_, _, rfl, ?_⟩⟩
    obtain ⟨size, rfl⟩ : ∃ k : Nat, size = k := ⟨size.toNat, by omega⟩
    have b12 := b1.trans b2
    have plain : ∀ H3, SAt H3 a g c cs (n + 2) → But H H3 a g → True := fun _ _ _ => trivial
    refine ⟨_, rfl, rfl, _, rfl, ?_⟩
    by_cases hw : way = 0
    · refine if_pos_of (decide_eq_true (congrArg V.int hw)) ⟨_, rfl, _, _, rfl, rfl, _, rfl, ?_⟩
      by_cases hz : (0 : Int) < (size : Nat)
      · refine if_pos_of (decide_eq_true hz) ?_
        refine ⟨⟨_, rfl⟩, _, rfl, a, g, c, cs, n + 2, 3, rfl, s2, by omega, by decide, by decide, fun H3 k k0 k1 s3 b3 => ⟨_, _, rfl, rfl, _, rfl, by omega, by omega, fun D nD => ?_⟩⟩
        refine lc_it walk_range (PickP H3 a g c cs (n + 3) ls D) (pick0 s3 nD) (fun _ _ _ _ => trivial) ?_ ?_
        · rintro j x H4 H5 hj p ⟨rfl, rfl⟩
          refine ⟨rfl, ?_⟩
          exact pickS (js := 0) (jt := 1) s3 nD p rfl rfl hp hl (by omega) (by omega)
        · rintro H4 ⟨s4, b4, ds, hdl, hds, hD⟩
          obtain ⟨e1, e2, hz, hzl⟩ := pick_join (by omega) hds hD
          refine ⟨"", D, ds.map sg, rfl, rfl, .inl (.inl (.inl e1)), e2, ?_⟩
          generalize Txt.join "" (ds.map sg) = z at hz hzl ⊢
          have ml : z.length * size ≤ 3 * 20 := Nat.mul_le_mul (by omega) (by omega)
          have mc := mul_cps z size
          have mln : (Txt.mul z size).length = size * z.length := by
            rw [← cut_len, mc, List.length_flatten, List.map_replicate, List.sum_replicate_nat, cut_len]
          have mz : size * z.length ≤ 60 := by rw [Nat.mul_comm]; exact ml
          have ct := cut_to (Txt.mul z size) size
          refine ⟨_, rfl, _, rfl, z, size, rfl, rfl, by omega, by omega, _, rfl, _, rfl, _, rfl, by omega, ?_⟩
          refine q H4 _ (fun d hd => ?_) ?_ (s4.mono (by omega)) ((b12.trans b3).trans b4)
          · rw [ct, mc] at hd
            obtain ⟨l, hl1, hl2⟩ := List.mem_flatten.mp (List.mem_of_mem_take hd)
            rw [(List.mem_replicate.mp hl1).2] at hl2
            exact hz d hl2
          · rw [← cut_len, ct, List.length_take]
            omega
      · refine if_neg_of (by rw [decide_eq_false hz]; decide) ?_
        refine ⟨⟨_, rfl⟩, _, rfl, _, rfl, by omega, by omega, fun D nD => ?_⟩
        refine lc_it walk_range (PickP H2 a g c cs (n + 2) ls D) (pick0 s2 nD) (fun _ _ _ _ => trivial) ?_ ?_
        · rintro j x H3 H4 hj p ⟨rfl, rfl⟩
          refine ⟨rfl, ?_⟩
          exact pickS (js := 0) (jt := 1) s2 nD p rfl rfl hp hl (by omega) (by omega)
        · rintro H3 ⟨s3, b3, ds, hdl, hds, hD⟩
          obtain ⟨e1, e2, hz, hzl⟩ := pick_join (by omega) hds hD
          exact ⟨"", D, ds.map sg, rfl, rfl, .inl (.inl (.inl e1)), e2, q H3 _ hz (by omega) (s3.mono (by omega)) (b12.trans b3)⟩
    · refine if_neg_of (by rw [decide_eq_false (fun z => hw (V.int.inj z))]; decide) ?_
      refine ⟨⟨_, rfl⟩, _, rfl, _, rfl, by omega, by omega, fun D nD => ?_⟩
      refine lc_it walk_range (PickP H2 a g c cs (n + 2) ls D) (pick0 s2 nD) (fun _ _ _ _ => trivial) ?_ ?_
      · rintro j x H3 H4 hj p ⟨rfl, rfl⟩
        refine ⟨rfl, ?_⟩
        exact pickS (js := 0) (jt := 1) s2 nD p rfl rfl hp hl (by omega) (by omega)
      · rintro H3 ⟨s3, b3, ds, hdl, hds, hD⟩
        obtain ⟨e1, e2, hz, hzl⟩ := pick_join (by omega) hds hD
        exact ⟨"", D, ds.map sg, rfl, rfl, .inl (.inl (.inl e1)), e2, q H3 _ hz (by omega) (s3.mono (by omega)) (b12.trans b3)⟩
end
end SWL
set_option Elab.async false
set_option linter.all false
set_option maxRecDepth 100000
set_option maxHeartbeats 8000000
namespace SWL
open PySem PySem.Spec PyProof.Rows L2 LamX
theorem nkall_snoc {H : Hp} {x : V} {k : NestedKey} : ∀ {ks : List NestedKey} {xs : List V}, NkAll H xs ks → NkAt H x k → NkAll H (xs ++ [x]) (ks ++ [k])
  | _, _, .nil, h => .cons h .nil
  | _ :: _, _, .cons a t, h => .cons a (nkall_snoc t h)
def spK : Nat → Sp
  | 0 => fun _ _ _ _ => False
  | m + 1 => fun vs H Q _ => ∃ (n : Nat) (z : Str), vs = [.int ((n : Nat) : Int), .str z] ∧ n ≤ 4 ∧ z.length ≤ m ∧ m ≤ 60 ∧ ∀ H' b, Grows H H' → NkAt H' (.ref b) (keyK n z.cps.toList) → Q (.ref b) H'
theorem rev_at {c i : Nat} {w : Wl} (h : w.reverse[i]? = some c) (n : ∀ k, k < i → w.reverse[k]? ≠ some c) : i < w.length ∧ bl c w = w.take (w.length - 1 - i) ∧ al c w = w.drop (w.length - 1 - i + 1) := by
  have hi := (List.getElem?_eq_some_iff.mp h).1
  rw [List.length_reverse] at hi
  obtain ⟨h1, h2⟩ := bf_at h n
  unfold bl al
  rw [h1, h2]
  refine ⟨hi, ?_, ?_⟩
  · rw [List.drop_reverse, List.reverse_reverse]
    rw [show w.length - (i + 1) = w.length - 1 - i by omega]
  · rw [List.take_reverse, List.reverse_reverse]
    rw [show w.length - i = w.length - 1 - i + 1 by omega]
section
variable {P : Program} {w : World} {K : PySem.W.Frag} {mg : Str → Option Value} {base : Heap}
theorem scKey : FnScope ["n", "word", "found", "letter", "first", "last"] ["n", "word"] (defScope sKey) := ⟨rfl, rfl, rfl, by decide +kernel, rfl, by decide +kernel, by decide +kernel⟩
theorem ok_key {f : Addr} {fd : FuncData} (F : L2.Fun K "_law_key" "_law_key" sKey f fd) (B : Blt mg) (Dk : Def mg K "_law_key" f fd ["n", "word"]) : ∀ m, FnOk P w K mg base CX0 (m + 1) f fd ["n", "word"] (spK m)
  | 0 => ⟨fun _ _ _ _ h => h.elim, fun _ _ _ _ _ _ _ _ _ _ _ _ _ h => h.elim⟩
  | m + 1 => by
    have G := ok_key F B Dk m
    refine F.ok scKey (fun vs H Q E h => ?_) (fun cdv A outer s H vs Q E hr h => ⟨_,
      pss_cons (ps_if (pt_cmpR op_eq (pv 0) pe_int (nomark _)) (pss_one (ps_ret (pe_tup pa_nil))) pss_nil)
      (pss_cons (ps_set (i := 2) scKey.nd rfl (Or.inl rfl) (pe_lst pa_nil))
      (pss_cons (ps_for PassesOwn.never rfl (pi_list (pe_callB (cr_sortedTx rfl) (by rfl) B.sorted (by decide +kernel) (pa_cons (pe_callTy (cr_setTx rfl) (by rfl) B.set (by decide +kernel) (pa_cons (pv 1) pa_nil)) pa_nil))) (pg_name (i := 3) scKey.nd rfl (Or.inl rfl))
        (pss_cons (ps_par (i := 4) (j := 5) rfl scKey.nd rfl rfl (by decide) rfl rfl (pa_cons (pe_m1 PySem.F.slot_str_index PySem.F.type_str_index mt_index (pv 1) (pv 3)) (pa_cons (pe_op op_sub (pe_op op_sub (pe_callB call_len_str (by rfl) B.len PySem.boot_len (pa_cons (pv 1) pa_nil)) pe_int) (pe_m1 PySem.F.slot_str_index PySem.F.type_str_index mt_index (pe_revS (pv 1)) (pv 3))) pa_nil)) rfl)
        (pss_one (ps_expr (pe_bm PySem.F.plainAttrs_list PySem.F.slot_list_append PySem.F.type_list_append mt_append (pv 2) (pa_cons (pe_tup (pa_cons (pv 3)
          (pa_cons (pe_call G hr (by rfl) Dk.g Dk.k Dk.b .nil pass0 (pa_cons (pv 0) (pa_cons (pe_slice sl_str (pv 1) po_none (po_some (pv 4))) pa_nil)))
          (pa_cons (pe_call G hr (by rfl) Dk.g Dk.k Dk.b .nil pass0 (pa_cons (pe_op op_sub (pv 0) pe_int) (pa_cons (pe_slice sl_str (pv 1) (po_some (pe_op op_add (pv 4) pe_int)) po_none) pa_nil)))
          (pa_cons (pe_call G hr (by rfl) Dk.g Dk.k Dk.b .nil pass0 (pa_cons (pe_op op_sub (pv 0) pe_int) (pa_cons (pe_slice sl_str (pv 1) po_none (po_some (pv 5))) pa_nil)))
          (pa_cons (pe_call G hr (by rfl) Dk.g Dk.k Dk.b .nil pass0 (pa_cons (pv 0) (pa_cons (pe_slice sl_str (pv 1) (po_some (pe_op op_add (pv 5) pe_int)) po_none) pa_nil))) pa_nil)))))) pa_nil))))))
      (pss_one (ps_ret (pe_callTy call_tuple_of (by rfl) B.tuple (by decide +kernel) (pa_cons (pv 2) pa_nil)))))), ?_⟩)
    · obtain ⟨n, z, rfl, _⟩ := h
      rfl
    · obtain ⟨n, z, rfl, hn, hz, hm, q⟩ := h
      have sz : sizeLine = 16777216 := sizeLine_eq
      refine ⟨_, rfl, rfl, _, rfl, ?_⟩
      by_cases h0 : n = 0
      · subst h0
        exact if_pos_of (decide_eq_true rfl) ⟨by show 0 ≤ sizeLine; decide, fun t nt => q _ t (Grows.new nt) (.tup upd_same .nil)⟩
      refine if_neg_of (by rw [decide_eq_false (fun e => h0 (by have := V.int.inj e; omega))]; decide) ?_
      obtain ⟨n, rfl⟩ : ∃ k, n = k + 1 := ⟨n - 1, by omega⟩
      have n1 : ∀ y : V, ([V.int (((n + 1 : Nat) : Int) - 1), y] ++ []) = [V.int ((n : Nat) : Int), y] := fun y => by
        rw [show (((n + 1 : Nat) : Int) - 1) = ((n : Nat) : Int) by omega]
        rfl
      refine ⟨by show 0 ≤ sizeLine; decide, fun D nD => ?_⟩
      have gD : Grows H (upd H D (.lst [])) := Grows.new nD
      have kD : upd H D (.lst []) D = some (.lst []) := upd_same
      generalize upd H D (.lst []) = H2 at gD kD ⊢
      refine go_signs (P := P) (w := w) rfl (by omega) fun H4 p2 gs np2 kp2 csl => ?_
      have np2H : H p2 = none := by
        cases e : H p2 with
        | none => rfl
        | some o => rw [gD _ _ e] at np2; cases np2
      have Dp2 : D ≠ p2 := ne_of_none kD np2
      generalize hcs : sgn z.cps.toList = cs at kp2 csl
      have mem : ∀ c, c ∈ cs ↔ c ∈ z.cps.toList := fun c => by rw [← hcs, mem_sgn]
      refine ⟨p2, rfl, ⟨_, .inl (.inl kp2)⟩, for_list (K := K) (a := p2) (xs := cs.map fun c => V.str (sg c)) (fun j σ H' => ∃ (v4 v5 v6 : Option V) (ts : List Addr), σ = [some (.int ((n + 1 : Nat) : Int)), some (.str z), some (.ref D), v4, v5, v6] ∧ Grows H H' ∧
        H' D = some (.lst (ts.map V.ref)) ∧ H' p2 = some (.lst (cs.map fun c => V.str (sg c))) ∧ NkAll H' (ts.map V.ref) ((cs.take j).map (entK n z.cps.toList)) ∧ ts.length = j)
        ⟨none, none, none, [], rfl, gD.trans gs, gs _ _ kD, kp2, .nil, rfl⟩ (fun j σ H' _ h => by obtain ⟨_, _, _, _, _, _, _, k, _⟩ := h; exact .inl (.inl k)) ?_ ?_⟩
      · rintro j y σ H5 hj ⟨v4, v5, v6, ts, rfl, g5, kD5, kp5, nk5, tl⟩
        rw [List.getElem?_map] at hj
        obtain ⟨c, hcj, rfl⟩ : ∃ c, cs[j]? = some c ∧ y = V.str (sg c) := by
          cases e : cs[j]? with
          | none => rw [e] at hj; cases hj
          | some c => rw [e] at hj; exact ⟨c, rfl, (Option.some.inj hj).symm⟩
        have hcW : c ∈ z.cps.toList := (mem c).mp (List.mem_of_getElem? hcj)
        have zl : z.cps.toList.length = z.length := cut_len z
        have zpos : 1 ≤ z.length := by rw [← zl]; exact List.length_pos_of_mem hcW
        have hjl : j < cs.length := (List.getElem?_eq_some_iff.mp hcj).1
        obtain ⟨m, rfl⟩ : ∃ k, m = k + 1 := ⟨m - 1, by omega⟩
        have rl : (revS z).cps.toList = z.cps.toList.reverse := rfl
        refine ⟨_, rfl, ⟨_, rfl⟩, _, rfl, z, c, rfl, rfl, hcW, fun i hi1 hi2 => ⟨_, rfl, z, rfl, by omega, _, _, rfl, rfl, _, rfl, z, rfl, by omega, ⟨_, rfl⟩, _, rfl, revS z, c, rfl, rfl, by rw [rl]; exact List.mem_reverse.mpr hcW, fun l hl1 hl2 => ⟨_, _, rfl, rfl, _, _, rfl, ?_⟩⟩⟩
        obtain ⟨b1, b2⟩ := bf_at hi1 hi2
        obtain ⟨hll, b3, b4⟩ := rev_at hl1 hl2
        rw [zl] at hll b3 b4
        obtain ⟨l', el', eln⟩ : ∃ l' : Nat, (((z.length : Nat) : Int) - 1 - ((l : Nat) : Int)) = ((l' : Nat) : Int) ∧ z.length - 1 - l = l' := ⟨z.length - 1 - l, by omega, rfl⟩
        rw [eln] at b3 b4
        dsimp only
        rw [el']
        have l1 := bf_len hcW
        have l2 := bl_len hcW
        have w1 : (cutS z none (some ((i : Nat) : Int))).cps.toList = bf c z.cps.toList := by rw [cut_to, b1]
        have w2 : (cutS z (some (((i + 1 : Nat)) : Int)) none).cps.toList = af c z.cps.toList := by rw [cut_from, b2]
        have w3 : (cutS z none (some ((l' : Nat) : Int))).cps.toList = bl c z.cps.toList := by rw [cut_to, b3]
        have w4 : (cutS z (some (((l' + 1 : Nat)) : Int)) none).cps.toList = al c z.cps.toList := by rw [cut_from, b4]
        have y1 : (cutS z none (some ((i : Nat) : Int))).length < z.length := by rw [← cut_len, w1]; omega
        have y2 : (cutS z (some (((i + 1 : Nat)) : Int)) none).length < z.length := by rw [← cut_len, w2]; omega
        have y3 : (cutS z none (some ((l' : Nat) : Int))).length < z.length := by rw [← cut_len, w3]; omega
        have y4 : (cutS z (some (((l' + 1 : Nat)) : Int)) none).length < z.length := by rw [← cut_len, w4]; omega
        refine ⟨_, rfl, .inl ⟨rfl, _, .inl (.inl kD5)⟩, _, rfl, _, rfl, _, rfl, _, rfl, _, rfl, z, rfl, by omega, n + 1, _, rfl, hn, by omega, by omega, fun H6 r1 g6 nk1 => ?_⟩
        refine ⟨_, rfl, _, _, rfl, rfl, _, rfl, _, rfl, _, _, rfl, rfl, _, rfl, ?_⟩
        dsimp only [tNoPart]
        refine ⟨z, rfl, by omega, n, cutS z (some (((i + 1 : Nat)) : Int)) none, (n1 _), by omega, by omega, by omega, fun H7 r2 g7 nk2 => ?_⟩
        refine ⟨_, rfl, _, _, rfl, rfl, _, rfl, _, rfl, _, rfl, z, rfl, by omega, n, cutS z none (some ((l' : Nat) : Int)), (n1 _), by omega, by omega, by omega, fun H8 r3 g8 nk3 => ?_⟩
        refine ⟨_, rfl, _, rfl, _, rfl, _, _, rfl, rfl, _, rfl, ?_⟩
        dsimp only [tNoPart]
        refine ⟨z, rfl, by omega, n + 1, cutS z (some (((l' + 1 : Nat)) : Int)) none, rfl, hn, by omega, by omega, fun H9 r4 g9 nk4 => ?_⟩
        rw [w1] at nk1
        rw [w2] at nk2
        rw [w3] at nk3
        rw [w4] at nk4
        refine ⟨by show 5 ≤ sizeLine; decide, fun t0 nt0 => ?_⟩
        have gt : Grows H9 (upd H9 t0 (.tup [.str (sg c), .ref r1, .ref r2, .ref r3, .ref r4])) := Grows.new nt0
        have kt : upd H9 t0 (.tup [.str (sg c), .ref r1, .ref r2, .ref r3, .ref r4]) t0 = some (.tup [.str (sg c), .ref r1, .ref r2, .ref r3, .ref r4]) := upd_same
        generalize upd H9 t0 (.tup [.str (sg c), .ref r1, .ref r2, .ref r3, .ref r4]) = H10 at gt kt ⊢
        have g910 := g9.trans gt
        have g810 := g8.trans g910
        have g710 := g7.trans g810
        have g510 := g6.trans g710
        have kD10 := g510 _ _ kD5
        have nkt : NkAt H10 (.ref t0) (entK n z.cps.toList c) := .tup kt (.cons (.str _) (.cons (nk1.keep (fun b xs e => g710 _ _ e) _) (.cons (nk2.keep (fun b xs e => g810 _ _ e) _) (.cons (nk3.keep (fun b xs e => g910 _ _ e) _) (.cons (nk4.keep (fun b xs e => gt _ _ e) _) .nil)))))
        refine ⟨D, _, _, rfl, rfl, kD10, by rw [List.length_map]; omega, ?_⟩
        have tupK : ∀ b xs, H10 b = some (.tup xs) → upd H10 D (.lst (ts.map V.ref ++ [V.ref t0])) b = some (.tup xs) := fun b xs e => by rw [upd_ne (ne_of e kD10 (by intro z; cases z))]; exact e
        refine ⟨_, _, _, ts ++ [t0], rfl, fun b o e => ?_, ?_, ?_, ?_, by rw [List.length_append, tl]; rfl⟩
        · rw [upd_ne (ne_of_none e nD)]
          exact g510 _ _ (g5 b o e)
        · rw [upd_same, List.map_append]
          rfl
        · rw [upd_ne Dp2.symm]
          exact g510 _ _ kp5
        · rw [List.map_append, take_snoc hcj, List.map_append]
          exact nkall_snoc (NkAll.keep tupK _ (NkAll.keep (fun b xs e => g510 _ _ e) _ nk5)) (NkAt.keep tupK _ nkt)
      · rintro σ H5 ⟨v4, v5, v6, ts, rfl, g5, kD5, kp5, nk5, tl⟩
        rw [List.length_map, List.take_length] at nk5
        refine ⟨_, rfl, D, _, rfl, .inl ⟨.inl (.inl kD5), fun T nT => ?_⟩⟩
        have gT : Grows H5 (upd H5 T (.tup (ts.map V.ref))) := Grows.new nT
        refine q _ T (g5.trans gT) ?_
        rw [keyK_succ, hcs]
        exact .tup upd_same (NkAll.keep (fun b xs e => gT _ _ e) _ nk5)
end
end SWL
set_option Elab.async false
set_option linter.all false
set_option maxRecDepth 100000
set_option maxHeartbeats 8000000
namespace SWL
open PySem PySem.Spec PyProof.Rows L2 LamX
theorem app_len (a b : Str) : (a ++ b).length = a.length + b.length := by
  show (a.cps ++ b.cps).size = _
  rw [Array.size_append]
  rfl
theorem app_cps (a b : Str) : (a ++ b).cps.toList = a.cps.toList ++ b.cps.toList := by
  show (a.cps ++ b.cps).toList = _
  simp
theorem Of.app {ls a b : Str} (h : Of ls a) (k : Of ls b) : Of ls (a ++ b) := fun d hd => by
  rw [app_cps] at hd
  rcases List.mem_append.mp hd with z | z
  · exact h d z
  · exact k d z
theorem Of.mul {ls a : Str} (h : Of ls a) (n : Nat) : Of ls (Txt.mul a n) := fun d hd => by
  rw [mul_cps] at hd
  obtain ⟨l, hl1, hl2⟩ := List.mem_flatten.mp hd
  rw [(List.mem_replicate.mp hl1).2] at hl2
  exact h d hl2
theorem mul_len (a : Str) (n : Nat) : (Txt.mul a n).length = a.length * n := by
  rw [← cut_len, mul_cps, List.length_flatten, List.map_replicate, List.sum_replicate_nat, cut_len, Nat.mul_comm]
theorem Of.cutTo {ls a : Str} (h : Of ls a) (i : Nat) : Of ls (cutS a none (some ((i : Nat) : Int))) := fun d hd => by
  rw [cut_to] at hd
  exact h d (List.mem_of_mem_take hd)
theorem Of.cutFrom {ls a : Str} (h : Of ls a) (i : Nat) : Of ls (cutS a (some ((i : Nat) : Int)) none) := fun d hd => by
  rw [cut_from] at hd
  exact h d (List.mem_of_mem_drop hd)
theorem cut_to_len (a : Str) (i : Nat) : (cutS a none (some ((i : Nat) : Int))).length ≤ a.length := by
  rw [← cut_len, cut_to, List.length_take, cut_len]
  omega
theorem cut_from_len (a : Str) (i : Nat) : (cutS a (some ((i : Nat) : Int)) none).length ≤ a.length := by
  rw [← cut_len, cut_from, List.length_drop, cut_len]
  omega
theorem Of.sg {ls : Str} {d : Nat} (h : d ∈ ls.cps.toList) : Of ls (sg d) := fun e he => by
  rw [List.mem_singleton.mp he]
  exact h
def spPair : Sp := fun vs H Q _ => ∃ (a g c : Addr) (cs : List Int) (n : Nat) (ls : Str), vs = [.ref a, .str ls] ∧ 0 < ls.length ∧ ls.length ≤ 10 ∧ SAt H a g c cs n ∧ n + 300 ≤ 1000000 ∧
  ∀ H' t u v, Of ls u → Of ls v → u.length ≤ 22 → v.length ≤ 22 → H' t = some (.tup [.str u, .str v]) → SAt H' a g c cs (n + 300) → But H H' a g → Q (.ref t) H'
section
variable {P : Program} {w : World} {K : PySem.W.Frag} {mg : Str → Option Value} {base : Heap}
theorem scPair : FnScope ["state", "letters", "way", "one", "piece", "u", "v", "at"] ["state", "letters"] (defScope sPair) := ⟨rfl, rfl, rfl, by decide +kernel, rfl, by decide +kernel, by decide +kernel⟩
theorem ok_pair {f f1 f2 f3 : Addr} {fd fd1 fd2 fd3 : FuncData} (F : L2.Fun K "_law_pair" "_law_pair" sPair f fd) (B : Blt mg)
    (G1 : FnOk P w K mg base CX0 2 f1 fd1 ["state", "room"] spDraw) (D1 : Def mg K "_law_draw" f1 fd1 ["state", "room"])
    (G2 : FnOk P w K mg base CX0 3 f2 fd2 ["state", "some"] spPickS) (D2 : Def mg K "_law_pick" f2 fd2 ["state", "some"])
    (G3 : FnOk P w K mg base CX0 4 f3 fd3 ["state", "letters", "most"] spSomeW) (D3 : Def mg K "_law_some_word" f3 fd3 ["state", "letters", "most"]) : FnOk P w K mg base CX0 5 f fd ["state", "letters"] spPair := by
  refine F.ok scPair (fun vs H Q E h => ?_) (fun cdv A outer s H vs Q E hr h => ⟨_,
    pss_cons (ps_par (i := 2) (j := 3) rfl scPair.nd rfl rfl (by decide) rfl rfl (pa_cons (pe_call G1 (hr.mono (by decide)) (by rfl) D1.g D1.k D1.b .nil pass0 (pa_cons (pv 0) (pa_cons pe_int pa_nil))) (pa_cons (pe_call G3 hr (by rfl) D3.g D3.k D3.b .nil pass0 (pa_cons (pv 0) (pa_cons (pv 1) (pa_cons pe_int pa_nil)))) pa_nil)) rfl)
    (pss_cons (ps_if (pt_cmpR op_eq (pv 2) pe_int (nomark _)) (pss_one (ps_ret (pe_tup (pa_cons (pv 3) (pa_cons (pe_call G3 hr (by rfl) D3.g D3.k D3.b .nil pass0 (pa_cons (pv 0) (pa_cons (pv 1) (pa_cons pe_int pa_nil)))) pa_nil))))) pss_nil)
    (pss_cons (ps_if (pt_cmpR op_eq (pv 2) pe_int (nomark _))
      (pss_cons (ps_par3 (i := 4) (j := 5) (l := 6) rfl scPair.nd rfl rfl rfl (by decide) (by decide) (by decide) rfl rfl rfl
        (pa_cons (pe_op op_add_str (pe_call G3 hr (by rfl) D3.g D3.k D3.b .nil pass0 (pa_cons (pv 0) (pa_cons (pv 1) (pa_cons pe_int pa_nil)))) (pe_ix ix_str (pv 1) pe_int (fun _ _ => rfl)))
        (pa_cons (pe_call G3 hr (by rfl) D3.g D3.k D3.b .nil pass0 (pa_cons (pv 0) (pa_cons (pv 1) (pa_cons pe_int pa_nil))))
        (pa_cons (pe_call G3 hr (by rfl) D3.g D3.k D3.b .nil pass0 (pa_cons (pv 0) (pa_cons (pv 1) (pa_cons pe_int pa_nil)))) pa_nil))) rfl)
      (pss_one (ps_ret (pe_tup (pa_cons
        (pe_op op_add_str (pe_op op_add_str (pv 5) (pe_op op_mulS (pv 4) (pe_op op_add pe_int (pe_call G1 (hr.mono (by decide)) (by rfl) D1.g D1.k D1.b .nil pass0 (pa_cons (pv 0) (pa_cons pe_int pa_nil)))))) (pv 6)) (pa_cons
        (pe_op op_add_str (pe_op op_add_str (pv 5) (pe_op op_mulS (pv 4) (pe_op op_add pe_int (pe_call G1 (hr.mono (by decide)) (by rfl) D1.g D1.k D1.b .nil pass0 (pa_cons (pv 0) (pa_cons pe_int pa_nil)))))) (pv 6)) pa_nil)))))) pss_nil)
    (pss_cons (ps_set (i := 7) scPair.nd rfl (Or.inl rfl) (pe_call G1 (hr.mono (by decide)) (by rfl) D1.g D1.k D1.b .nil pass0 (pa_cons (pv 0) (pa_cons (pe_op op_add (pe_callB call_len_str (by rfl) B.len PySem.boot_len (pa_cons (pv 3) pa_nil)) pe_int) pa_nil))))
    (pss_cons (ps_if (pt_cmpR op_eq (pv 2) pe_int (nomark _))
      (pss_one (ps_ret (pe_tup (pa_cons (pv 3) (pa_cons (pe_op op_add_str (pe_op op_add_str (pe_slice sl_str (pv 3) po_none (po_some (pv 7))) (pe_call G2 (hr.mono (by decide)) (by rfl) D2.g D2.k D2.b .nil pass0 (pa_cons (pv 0) (pa_cons (pv 1) pa_nil)))) (pe_slice sl_str (pv 3) (po_some (pv 7)) po_none)) pa_nil))))) pss_nil)
    (pss_one (ps_ret (pe_tup (pa_cons (pv 3) (pa_cons (pe_op op_add_str (pe_slice sl_str (pv 3) po_none (po_some (pv 7))) (pe_slice sl_str (pv 3) (po_some (pe_op op_add (pv 7) pe_int)) po_none)) pa_nil))))))))), ?_⟩)
  · obtain ⟨a, g, c, cs, n, ls, rfl, _⟩ := h
    rfl
  · obtain ⟨a, g, c, cs, n, ls, rfl, hp, hl, hs, hn, q⟩ := h
    have sz : sizeLine = 16777216 := sizeLine_eq
    refine ⟨_, rfl, a, g, c, cs, n, 4, rfl, hs, by omega, by decide, by decide, fun H1 way w0 w1 s1 b1 => ?_⟩
    refine ⟨_, rfl, _, rfl, a, g, c, cs, n + 1, 10, ls, rfl, hp, by omega, by decide, s1, by omega, fun H2 one o1 o2 s2 b2 => ⟨_, _, rfl, ?_⟩⟩
    have b12 := b1.trans b2
    refine ⟨_, rfl, rfl, _, rfl, ?_⟩
    by_cases h0 : way = 0
    · refine if_pos_of (decide_eq_true (congrArg V.int h0)) ?_
      refine ⟨_, rfl, _, rfl, _, rfl, a, g, c, cs, n + 1 + 50, 10, ls, rfl, hp, by omega, by decide, s2, by omega, fun H3 z z1 z2 s3 b3 => ⟨by show 2 ≤ sizeLine; omega, fun t nt => ?_⟩⟩
      exact q _ t one z o1 z1 (by omega) (by omega) upd_same ((s3.grows (Grows.new nt)).mono (by omega)) ((b12.trans b3).trans (But.of (Grows.new nt)))
    refine if_neg_of (by rw [decide_eq_false (fun e => h0 (V.int.inj e))]; decide) ?_
    refine ⟨_, rfl, rfl, _, rfl, ?_⟩
    by_cases h1 : way = 1
    · refine if_pos_of (decide_eq_true (congrArg V.int h1)) ?_
      refine ⟨_, rfl, _, rfl, a, g, c, cs, n + 1 + 50, 3, ls, rfl, hp, by omega, by decide, s2, by omega, fun H3 pc z1 z2 s3 b3 => ?_⟩
      have l0 : 0 < ls.cps.toList.length := by rw [cut_len]; exact hp
      refine ⟨_, rfl, ls, 0, ls.cps.toList[0], rfl, rfl, by omega, atI_nat (j := 0) (List.getElem?_eq_getElem l0), ?_⟩
      have zc : Of ls (sg ls.cps.toList[0]) := Of.sg (List.getElem_mem l0)
      change ∃ i j, _ = V.str i ∧ V.str (sg ls.cps.toList[0]) = V.str j ∧ _
      generalize ls.cps.toList[0] = ch at zc ⊢
      have chl : (sg ch).length = 1 := rfl
      have pcl : (pc ++ sg ch).length ≤ 4 := by rw [app_len]; omega
      have pco := z1.app zc
      refine ⟨pc, sg ch, rfl, rfl, by omega, ?_⟩
      generalize pc ++ sg ch = piece at pcl pco ⊢
      refine ⟨_, rfl, _, rfl, a, g, c, cs, _, 3, ls, rfl, hp, by omega, by decide, s3, by omega, fun H4 u u1 u2 s4 b4 => ?_⟩
      refine ⟨_, rfl, _, rfl, a, g, c, cs, _, 3, ls, rfl, hp, by omega, by decide, s4, by omega, fun H5 v v1 v2 s5 b5 => ?_⟩
      refine ⟨_, _, _, rfl, ?_⟩
      refine ⟨_, rfl, _, rfl, _, rfl, a, g, c, cs, _, 4, rfl, s5, by omega, by decide, by decide, fun H6 k k0 k1 s6 b6 => ?_⟩
      obtain ⟨k, rfl⟩ : ∃ m : Nat, k = m := ⟨k.toNat, by omega⟩
      have m1 : piece.length * (1 + k) ≤ 4 * 4 := Nat.mul_le_mul pcl (by omega)
      refine ⟨_, _, rfl, rfl, piece, 1 + k, rfl, (by show V.int _ = V.int _; exact congrArg V.int (by omega)), by omega, by omega, ?_⟩
      have e1 := mul_len piece (1 + k)
      have e2 := app_len u (Txt.mul piece ((1 + k : Nat) : Int))
      have e3 := app_len (u ++ Txt.mul piece ((1 + k : Nat) : Int)) v
      refine ⟨u, _, rfl, rfl, by omega, _, rfl, _, v, rfl, rfl, by omega, ?_⟩
      refine ⟨_, rfl, _, rfl, _, rfl, a, g, c, cs, _, 4, rfl, s6, by omega, by decide, by decide, fun H7 l l0 l1 s7 b7 => ?_⟩
      obtain ⟨l, rfl⟩ : ∃ m : Nat, l = m := ⟨l.toNat, by omega⟩
      have m2 : piece.length * (1 + l) ≤ 4 * 4 := Nat.mul_le_mul pcl (by omega)
      refine ⟨_, _, rfl, rfl, piece, 1 + l, rfl, (by show V.int _ = V.int _; exact congrArg V.int (by omega)), by omega, by omega, ?_⟩
      have f1 := mul_len piece (1 + l)
      have f2 := app_len u (Txt.mul piece ((1 + l : Nat) : Int))
      have f3 := app_len (u ++ Txt.mul piece ((1 + l : Nat) : Int)) v
      refine ⟨u, _, rfl, rfl, by omega, _, rfl, _, v, rfl, rfl, by omega, by show 2 ≤ sizeLine; omega, fun t nt => ?_⟩
      refine q _ t _ _ ((u1.app (pco.mul _)).app v1) ((u1.app (pco.mul _)).app v1) (by omega) (by omega) upd_same ((s7.grows (Grows.new nt)).mono (by omega)) (((((((b12.trans b3).trans b4).trans b5).trans b6).trans b7)).trans (But.of (Grows.new nt)))
    refine if_neg_of (by rw [decide_eq_false (fun e => h1 (V.int.inj e))]; decide) ?_
    refine ⟨_, rfl, _, rfl, one, rfl, by omega, _, _, rfl, rfl, a, g, c, cs, n + 1 + 50, _, rfl, s2, by omega, by omega, by omega, fun H3 at_ a0 a1 s3 b3 => ?_⟩
    obtain ⟨k, rfl⟩ : ∃ m : Nat, at_ = m := ⟨at_.toNat, by omega⟩
    refine ⟨_, rfl, rfl, _, rfl, ?_⟩
    have c1 := cut_to_len one k
    have c2 := cut_from_len one k
    have c3 := cut_from_len one (k + 1)
    by_cases h2 : way = 2
    · refine if_pos_of (decide_eq_true (congrArg V.int h2)) ?_
      refine ⟨_, rfl, _, rfl, _, rfl, _, rfl, one, rfl, by omega, _, rfl, _, rfl, a, g, c, cs, _, ls, rfl, s3, by omega, hp, by omega, fun H4 d hd s4 b4 => ?_⟩
      have dl : (sg d).length = 1 := rfl
      have e1 := app_len (cutS one none (some ((k : Nat) : Int))) (sg d)
      have e2 := app_len (cutS one none (some ((k : Nat) : Int)) ++ sg d) (cutS one (some ((k : Nat) : Int)) none)
      refine ⟨_, sg d, rfl, rfl, by omega, _, rfl, _, rfl, _, rfl, ?_⟩
      dsimp only [tNoPart]
      refine ⟨_, rfl, by omega, _, _, rfl, rfl, by omega, by show 2 ≤ sizeLine; omega, fun t nt => ?_⟩
      exact q _ t one _ o1 (((o1.cutTo k).app (Of.sg hd)).app (o1.cutFrom k)) (by omega) (by omega) upd_same ((s4.grows (Grows.new nt)).mono (by omega)) (((b12.trans b3).trans b4).trans (But.of (Grows.new nt)))
    · refine if_neg_of (by rw [decide_eq_false (fun e => h2 (V.int.inj e))]; decide) ?_
      have e1 := app_len (cutS one none (some ((k : Nat) : Int))) (cutS one (some ((k + 1 : Nat) : Int)) none)
      refine ⟨_, rfl, _, rfl, _, rfl, _, rfl, one, rfl, by omega, _, rfl, _, rfl, _, _, rfl, rfl, _, rfl, ?_⟩
      dsimp only [tNoPart]
      refine ⟨_, rfl, by omega, _, _, rfl, rfl, (by have c4 : (cutS one (some (((k : Nat) : Int) + 1)) none).length ≤ one.length := c3; omega), by show 2 ≤ sizeLine; omega, fun t nt => ?_⟩
      exact q _ t one _ o1 ((o1.cutTo k).app (o1.cutFrom (k + 1))) (by omega) (by show _ ≤ 22; omega) upd_same ((s3.grows (Grows.new nt)).mono (by omega)) ((b12.trans b3).trans (But.of (Grows.new nt)))
end
end SWL
set_option Elab.async false
set_option linter.all false
set_option maxRecDepth 100000
set_option maxHeartbeats 8000000
namespace SWL
open PySem PySem.Spec PyProof.Rows L2 LamX
def qLam : Str := (envOfC "law" (defScope sLaw) 0 0 .none).qual ++ "<lambda>"
/-- the draws and the table of the lambdas' code -/
structure LS (H : Hp) (a g c : Addr) (cs : List Int) (n : Nat) (Pt : Addr) : Prop where
  sat : SAt H a g c cs n
  tab : Tabs [(Pt, qLam)] H
theorem LS.grows {H H' : Hp} {a g c Pt : Addr} {cs : List Int} {n : Nat} (s : LS H a g c cs n Pt) (x : Grows H H') : LS H' a g c cs n Pt := ⟨s.sat.grows x, s.tab.ext x⟩
theorem LS.mono {H : Hp} {a g c Pt : Addr} {cs : List Int} {n m : Nat} (s : LS H a g c cs n Pt) (h : n ≤ m) : LS H a g c cs m Pt := ⟨s.sat.mono h, s.tab⟩
theorem LS.but {H H' : Hp} {a g c Pt : Addr} {cs : List Int} {n m : Nat} (s : LS H a g c cs n Pt) (x : But H H' a g) (s' : SAt H' a g c cs m) : LS H' a g c cs m Pt := by
  refine ⟨s', fun p hp => ?_⟩
  obtain ⟨gs, r, t, h1, h2, _⟩ := s.sat.ex
  obtain ⟨ps, e1, e2, e3⟩ := s.tab p hp
  refine ⟨ps, x _ _ e1 (ne_of e1 h1 (by intro z; cases z)) (ne_of e1 h2 (by intro z; cases z)), e2, fun pos cv hc => ?_⟩
  obtain ⟨d, f1, f2⟩ := e3 pos cv hc
  exact ⟨d, f1, x _ _ f2 (ne_of f2 h1 (by unfold CodeO; intro z; cases z)) (ne_of f2 h2 (by unfold CodeO; intro z; cases z))⟩
theorem LS.ext {H H' : Hp} {a g c Pt : Addr} {cs : List Int} {n : Nat} (s : LS H a g c cs n Pt) (x : ExtN H H') (t : Tabs [(Pt, qLam)] H') : LS H' a g c cs n Pt := by
  obtain ⟨gs, r, t', h1, h2, h3, h4⟩ := s.sat.ex
  exact ⟨⟨gs, r, t', x _ _ h1 (by intro ps z; cases z), x _ _ h2 (by intro ps z; cases z), x _ _ h3 (by intro ps z; cases z), h4⟩, t⟩
theorem LS.offA {H : Hp} {a g c Pt : Addr} {cs : List Int} {n : Nat} (s : LS H a g c cs n Pt) {l : Addr} {xs : List V} (h : H l = some (.lst xs)) : l ≠ a := by
  obtain ⟨gs, r, t, h1, _⟩ := s.sat.ex
  exact ne_of h h1 (by intro z; cases z)
theorem LS.offA' {H : Hp} {a g c Pt : Addr} {cs : List Int} {n : Nat} (s : LS H a g c cs n Pt) {l : Addr} (h : H l = none) : l ≠ a := by
  obtain ⟨gs, r, t, h1, h2, _⟩ := s.sat.ex
  exact (ne_of_none h1 h).symm
theorem LS.offG {H : Hp} {a g c Pt : Addr} {cs : List Int} {n : Nat} (s : LS H a g c cs n Pt) {l : Addr} (h : H l = none) : l ≠ g := by
  obtain ⟨gs, r, t, h1, h2, _⟩ := s.sat.ex
  exact (ne_of_none h2 h).symm
theorem LS.offC {H : Hp} {a g c Pt : Addr} {cs : List Int} {n : Nat} (s : LS H a g c cs n Pt) {l : Addr} (h : H l = none) : l ≠ c := by
  obtain ⟨gs, r, t, h1, h2, h3, _⟩ := s.sat.ex
  exact (ne_of_none h3 h).symm
theorem LS.put {H : Hp} {a g c Pt D : Addr} {cs : List Int} {n : Nat} {xs : List V} (s : LS H a g c cs n Pt) (h : H D = some (.lst xs)) (dG : D ≠ g) (dC : D ≠ c) (ys : List V) : LS (upd H D (.lst ys)) a g c cs n Pt := by
  have dA := s.offA h
  obtain ⟨gs, r, t, h1, h2, h3, h4⟩ := s.sat.ex
  refine ⟨⟨gs, r, t, by rw [upd_ne dA.symm]; exact h1, by rw [upd_ne dG.symm]; exact h2, by rw [upd_ne dC.symm]; exact h3, h4⟩, fun p hp => ?_⟩
  obtain ⟨ps, e1, e2, e3⟩ := s.tab p hp
  refine ⟨ps, by rw [upd_ne (ne_of e1 h (by intro z; cases z))]; exact e1, e2, fun pos cv hc => ?_⟩
  obtain ⟨d, f1, f2⟩ := e3 pos cv hc
  exact ⟨d, f1, by rw [upd_ne (ne_of f2 h (by unfold CodeO; intro z; cases z))]; exact f2⟩
theorem tyx_ext {K : PySem.W.Frag} {H H' : Hp} (g : ExtN H H') {x : V} {t : Value} (h : TyX K H x t) : TyX K H' x t := by
  have no : ∀ {o : HO}, (∀ ps, o ≠ .tbl ps) → ∀ {b}, H b = some o → H' b = some o := fun n b e => g b _ e n
  cases h with
  | base b =>
    cases b with
    | non => exact .base .non
    | bl y => exact .base (.bl y)
    | int i => exact .base (.int i)
    | str z => exact .base (.str z)
    | flt z => exact .base (.flt z)
    | lst e => exact .base (.lst (no (by intro ps z; cases z) e))
    | frz e => exact .base (.frz (no (by intro ps z; cases z) e))
    | tup e => exact .base (.tup (no (by intro ps z; cases z) e))
    | dK e => exact .base (.dK (no (by intro ps z; cases z) e))
    | dT e => exact .base (.dT (no (by intro ps z; cases z) e))
    | ins e cl ha hn ht hm => exact .base (.ins (no (by intro ps z; cases z) e) cl ha hn ht hm)
  | byt b => exact .byt b
  | set e => exact .set (no (by intro ps z; cases z) e)
  | kList e c => exact .kList e c
  | kTuple e c => exact .kTuple e c
  | kDict e c => exact .kDict e c
  | fTuple e => exact .fTuple (no (by intro ps z; cases z) e)
  | fDict e => exact .fDict (no (by intro ps z; cases z) e)
theorem Grows.extN {H H' : Hp} (g : Grows H H') : ExtN H H' := fun b o h _ => g b o h
theorem ExtN.tr {H H1 H2 : Hp} (a : ExtN H H1) (b : ExtN H1 H2) : ExtN H H2 := fun c o h n => b c o (a c o h n) n
def spLaw (K : PySem.W.Frag) (Pt : Addr) : Sp := fun vs H Q _ => ∃ (a : Addr) (ns : List Int), vs = [.ref a] ∧ SqL K H a (ns.map V.int) ∧ ns.length ≤ 63 ∧ H Pt = some (.tbl #[]) ∧ ∀ H', Q (.bl true) H'
def dWords (ws : List Str) : PyData := .list (ws.map PyData.str)
theorem dp_strs {K : PySem.W.Frag} {H : Hp} : ∀ {l : List Str}, DpAll K H (l.map V.str) (l.map PyData.str)
  | [] => .nil
  | x :: l => .cons (.str x) dp_strs
theorem can_strs : ∀ {l : List Str}, (∀ z ∈ l, PyData.strOk z = true) → PyData.canLayAll0 (l.map PyData.str) = true
  | [], _ => rfl
  | x :: l, h => by
    have h1 := h x List.mem_cons_self
    have h2 := can_strs fun z hz => h z (List.mem_cons_of_mem x hz)
    simp [PyData.canLayAll0, PyData.canLay0, h1, h2]
theorem dep_strs : ∀ l : List Str, PyData.depthAll (l.map PyData.str) = 0
  | [] => rfl
  | x :: l => by
    rw [List.map_cons, PyData.depthAll, dep_strs l]
    rfl
theorem shaped_strs {l : List Str} (h : ∀ z ∈ l, PyData.strOk z = true) : SeqAt.shaped (dWords l) = true := by
  unfold SeqAt.shaped dWords
  rw [Bool.and_eq_true]
  refine ⟨by rw [PyData.canLay0]; exact can_strs h, decide_eq_true ?_⟩
  rw [PyData.depth, dep_strs]
  decide
theorem dp_words {K : PySem.W.Frag} {H : Hp} {a : Addr} {ws : List Str} (h : H a = some (.lst (ws.map V.str))) : Dp K H (.ref a) (dWords ws) := .lst (.inl (.inl h)) dp_strs
theorem bad_sign {ls z : Str} {c : Nat} (hc : c ∈ z.cps.toList) (hn : c ∉ ls.cps.toList) : okWord ls z 20000 = false := by
  unfold okWord
  have e : (z.cps.toList.all fun c => decide (c ∈ ls.cps.toList)) = false := by
    rw [Bool.eq_false_iff]
    intro h
    exact hn (of_decide_eq_true (List.all_eq_true.mp h c hc))
  rw [e, Bool.and_false]
abbrev NL : List Str := ["script", "state", "lap", "letters", "one", "other", "u", "v", "before", "n", "due", "piece", "some", "wrong", "found", "g", "at"]
theorem scLaw : FnScope NL ["script"] (defScope sLaw) := ⟨rfl, rfl, rfl, by decide +kernel, rfl, by decide +kernel, by decide +kernel⟩
/-- what the law calls -/
structure Callees (P : Program) (w : World) (K : PySem.W.Frag) (mg : Str → Option Value) (base : Heap) (CN CM CW : Addr) : Prop where
  begun : ∃ f fd, Def mg K "_law_begun" f fd ["script"] ∧ FnOk P w K mg base CX0 1 f fd ["script"] (spBegun K)
  draw : ∃ f fd, Def mg K "_law_draw" f fd ["state", "room"] ∧ FnOk P w K mg base CX0 2 f fd ["state", "room"] spDraw
  pickS : ∃ f fd, Def mg K "_law_pick" f fd ["state", "some"] ∧ FnOk P w K mg base CX0 3 f fd ["state", "some"] spPickS
  pick : ∃ f fd, Def mg K "_law_pick" f fd ["state", "some"] ∧ FnOk P w K mg base CX0 3 f fd ["state", "some"] spPick
  someL : ∃ f fd, Def mg K "_law_some_letters" f fd ["state"] ∧ FnOk P w K mg base CX0 4 f fd ["state"] spSomeL
  pair : ∃ f fd, Def mg K "_law_pair" f fd ["state", "letters"] ∧ FnOk P w K mg base CX0 5 f fd ["state", "letters"] spPair
  someW : ∃ f fd, Def mg K "_law_some_word" f fd ["state", "letters", "most"] ∧ FnOk P w K mg base CX0 4 f fd ["state", "letters", "most"] spSomeW
  key : ∃ f fd, Def mg K "_law_key" f fd ["n", "word"] ∧ FnOk P w K mg base CX0 61 f fd ["n", "word"] (spK 60)
  is : ∃ f fd, Def mg K "_law_is" f fd ["found", "due"] ∧ FnG P w K mg base 3 f fd ["found", "due"] (spIsV K 1)
  alike : ∃ f fd, Def mg K "turn_alike" f fd ["letters", "n", "one", "other"] ∧ KBinds K fd ["letters", "n", "one", "other"] ["other", "one", "n", "letters"] (fun us ws => us ++ ws.reverse) (fun us ws => us ++ ws.reverse) ∧ FnOk P w K mg base (L2.CX P w) 63 f fd ["letters", "n", "one", "other"] (spAlike K CN CM CW)
/-- _law_word, as it stands -/
structure WordK (K : PySem.W.Frag) (mg : Str → Option Value) (fC : Addr) : Prop where
  g : mg "_law_word" = some (.ref fC)
  k : PySem.W.keepIn K (.ref fC) = true
  ex : ∃ (oc kV doc pm cdv ct : Value) (an od : Option Addr) (osl : Array (Option Value)), K.lookup fC = some ⟨oc, od, .func (PySem.W.fnOf "_law_word" "_law_word" (defArgs sWord) (defBody sWord) (defScope sWord) .none kV doc pm an cdv ct), osl⟩ ∧ PySem.W.codeIn K cdv "_law_word" = true ∧
    L2.Binds K (PySem.W.fnOf "_law_word" "_law_word" (defArgs sWord) (defBody sWord) (defScope sWord) .none kV doc pm an cdv ct) ["action"] []
/-- an error class as isinstance and except see it, and the word for it -/
structure SeenW (K : PySem.W.Frag) (C CS CG CN CW CM : Addr) (z : String) : Prop where
  exm : PySem.W.exmOne K (.ref C) (.ref CS) = some true
  ec : ExcC K C
  wd : ∀ R : Str → Prop, R z → WordOf K C CG CN CW CM R
/-! words, whether alike -/
theorem depth_all {ks : List NestedKey} {n : Nat} (h : ∀ k ∈ ks, k.depth ≤ n) : NestedKey.depthAll ks ≤ n := by
  induction ks with
  | nil => exact Nat.zero_le _
  | cons k ks ih =>
    rw [NestedKey.depthAll]
    have h1 := h k List.mem_cons_self
    have h2 := ih fun j hj => h j (List.mem_cons_of_mem _ hj)
    omega
theorem key_depth : ∀ (m n : Nat) (w : Wl), w.length ≤ m → (keyK n w).depth ≤ 2 * m + 1
  | m, 0, w, _ => by
    show (NestedKey.tup []).depth ≤ _
    rw [NestedKey.depth]
    have : NestedKey.depthAll [] = 0 := by rw [NestedKey.depthAll]
    omega
  | 0, n + 1, w, h => by
    have : w = [] := List.length_eq_zero_iff.mp (Nat.le_zero.mp h)
    subst this
    rw [keyK_succ]
    show (NestedKey.tup []).depth ≤ _
    rw [NestedKey.depth]
    have : NestedKey.depthAll [] = 0 := by rw [NestedKey.depthAll]
    omega
  | m + 1, n + 1, w, h => by
    rw [keyK_succ, NestedKey.depth]
    have := depth_all (ks := (sgn w).map (entK n w)) (n := 2 * m + 2) fun k hk => by
      obtain ⟨c, hc, rfl⟩ := List.mem_map.mp hk
      have mm := mem_sgn.mp hc
      have l1 := bf_len mm
      have l2 := bl_len mm
      have d1 := key_depth m (n + 1) (bf c w) (by omega)
      have d2 := key_depth m n (af c w) (by omega)
      have d3 := key_depth m n (bl c w) (by omega)
      have d4 := key_depth m (n + 1) (al c w) (by omega)
      unfold entK
      rw [NestedKey.depth]
      have := depth_all (ks := [.text (sg c), keyK (n + 1) (bf c w), keyK n (af c w), keyK n (bl c w), keyK (n + 1) (al c w)]) (n := 2 * m + 1) fun k hk => by
        simp only [List.mem_cons, List.not_mem_nil, or_false] at hk
        rcases hk with rfl | rfl | rfl | rfl | rfl
        · rw [NestedKey.depth]
          omega
        · exact d1
        · exact d2
        · exact d3
        · exact d4
      omega
    omega
theorem key_tup (n : Nat) (w : Wl) : ∃ ks, keyK n w = .tup ks := by
  cases n with
  | zero => exact ⟨_, rfl⟩
  | succ n => exact ⟨_, keyK_succ n w⟩
theorem alikeB_symm (n : Nat) (u v : Wl) : alikeB n u v = alikeB n v u := by
  rw [Bool.eq_iff_iff, alikeB_iff, alikeB_iff]
  exact ⟨Eq.symm, Eq.symm⟩
theorem alikeB_true {n : Nat} {u v : Wl} (h : Alike n u v) : alikeB n u v = true := alikeB_iff.mpr h
theorem alikeB_rev (n : Nat) (u v : Wl) : alikeB n u.reverse v.reverse = alikeB n u v := by
  rw [Bool.eq_iff_iff, alikeB_iff, alikeB_iff]
  exact alike_rev
theorem okW_of {ls z : Str} (h : Of ls z) (hl : z.length ≤ 20000) : okWord ls z 20000 = true := by
  unfold okWord
  rw [Bool.and_eq_true]
  exact ⟨decide_eq_true (by omega), List.all_eq_true.mpr fun c hc => decide_eq_true (h c hc)⟩
theorem rev_len (z : Str) : (revS z).length = z.length := by
  rw [← cut_len, ← cut_len]
  exact List.length_reverse
theorem Of.rev {ls z : Str} (h : Of ls z) : Of ls (revS z) := fun c hc => h c (List.mem_reverse.mp hc)
/-- what stood before -/
def befB (j : Nat) (u v : Wl) : Bool := j == 0 || alikeB (j - 1) u v
theorem bef_due {j : Nat} {u v : Wl} (h : alikeB j u v = true) : befB j u v = true := by
  unfold befB
  cases j with
  | zero => rfl
  | succ j => exact (Bool.or_eq_true _ _).mpr (.inr (alikeB_true (alike_less (alikeB_iff.mp h) (by omega))))
theorem bef_succ (j : Nat) (u v : Wl) : befB (j + 1) u v = alikeB j u v := by
  unfold befB
  rfl
theorem lots_q : lettersL.all (fun z => !decide (63 ∈ z.cps.toList)) = true := by decide +kernel
theorem lot_q {ls : Str} (h : ls ∈ lettersL) : 63 ∉ ls.cps.toList := by
  have := List.all_eq_true.mp lots_q ls h
  simpa using this
/-- what is no word of these letters, drawn -/
theorem bad_q {K : PySem.W.Frag} {H : Hp} {ls : Str} (h : ls ∈ lettersL) : BadW K H ls (.str "?") :=
  .inr ⟨"?", rfl, by decide, bad_sign (c := 63) (by decide +kernel) (lot_q h)⟩
theorem bad_long {K : PySem.W.Frag} {H : Hp} {ls z : Str} (h1 : z.length = 20001) : BadW K H ls (.str z) := by
  refine .inr ⟨z, rfl, by rw [h1]; decide, ?_⟩
  unfold okWord
  rw [Bool.and_eq_false_iff]
  exact .inl (decide_eq_false (by omega))
theorem bad_non {K : PySem.W.Frag} {H : Hp} {ls : Str} : BadW K H ls .non := .inl ⟨"NoneType", .base .non, by decide +kernel⟩
theorem bad_five {K : PySem.W.Frag} {H : Hp} {ls : Str} : BadW K H ls (.int 5) := .inl ⟨"int", .base (.int 5), by decide +kernel⟩
theorem badL_of {K : PySem.W.Frag} {H : Hp} {x : V} (h : x ∈ [.non, .str "", .str "ba", .str "aa", .str "abcde", .str "A", .int 5]) : BadL K H x := by
  have sz : sizeLine = 16777216 := sizeLine_eq
  simp only [List.mem_cons, List.not_mem_nil, or_false] at h
  rcases h with rfl | rfl | rfl | rfl | rfl | rfl | rfl
  · exact .inl ⟨"NoneType", .base .non, by decide +kernel⟩
  · exact .inr ⟨"", rfl, by show 0 ≤ sizeLine; omega, by decide +kernel⟩
  · exact .inr ⟨"ba", rfl, by show 2 ≤ sizeLine; omega, by decide +kernel⟩
  · exact .inr ⟨"aa", rfl, by show 2 ≤ sizeLine; omega, by decide +kernel⟩
  · exact .inr ⟨"abcde", rfl, by show 5 ≤ sizeLine; omega, by decide +kernel⟩
  · exact .inr ⟨"A", rfl, by show 1 ≤ sizeLine; omega, by decide +kernel⟩
  · exact .inl ⟨"int", .base (.int 5), by decide +kernel⟩
theorem badT_of {K : PySem.W.Frag} {H : Hp} {x : V} (h : x ∈ [.int (-1), .int 5, .non, .bl true, .str "1"]) : BadT K H x := by
  simp only [List.mem_cons, List.not_mem_nil, or_false] at h
  rcases h with rfl | rfl | rfl | rfl | rfl
  · exact .inr ⟨-1, rfl, by decide⟩
  · exact .inr ⟨5, rfl, by decide⟩
  · exact .inl (.inr ⟨"NoneType", .base .non, by decide +kernel⟩)
  · exact .inl (.inl ⟨true, rfl⟩)
  · exact .inl (.inr ⟨"str", .base (.str _), by decide +kernel⟩)
/-- due and not before, or due and ..: neither -/
theorem go_part {K : PySem.W.Frag} {i8 i10 : Nat} {tX : TT} {th el : TS} {D : Ends} {σ : L2.St} {H : Hp} {d b : Bool} (h10 : σ[i10]? = some (some (.bl d))) (h8 : σ[i8]? = some (some (.bl b))) (hb : d = true → b = true)
    (hx : d = true → ∀ Q : Bool → Hp → Prop, (∀ H', Grows H H' → Q false H') → tX σ H Q) (he : ∀ H', Grows H H' → el D σ H') :
    tIfS (tOr (tAnd (fun σ H Q => tVar i10 σ H fun x H' => ∃ k, TruV K x H' k ∧ Q k H') (tNot fun σ H Q => tVar i8 σ H fun x H' => ∃ k, TruV K x H' k ∧ Q k H')) (tAnd (fun σ H Q => tVar i10 σ H fun x H' => ∃ k, TruV K x H' k ∧ Q k H') tX)) th el D σ H := by
  cases d with
  | false => exact ⟨_, h10, false, rfl, if_neg_of (by decide) (if_neg_of (by decide) ⟨_, h10, false, rfl, if_neg_of (by decide) (if_neg_of (by decide) (he H (Grows.refl H)))⟩)⟩
  | true =>
    obtain rfl := hb rfl
    exact ⟨_, h10, true, rfl, if_pos_of rfl ⟨_, h8, true, rfl, if_neg_of (by decide) ⟨_, h10, true, rfl, if_pos_of rfl (hx rfl _ fun H' g' => if_neg_of (by decide) (he H' g'))⟩⟩⟩
def lotsW : List Str := ["letters", "number", "word", "word"]
end SWL
set_option Elab.async false
set_option linter.all false
set_option maxRecDepth 100000
set_option maxHeartbeats 16000000
namespace SWL
open PySem PySem.Spec PyProof.Rows L2 LamX
section
variable {P : Program} {w : World} {K : PySem.W.Frag} {mg : Str → Option Value} {base : Heap}
theorem ok_law {CN CM CW CG CS fC f c Pt : Addr} {oc0 kV0 doc0 pm0 ct0 : Value} {an0 od0 : Option Addr} {osl0 : Array (Option Value)} (lk : K.lookup f = some ⟨oc0, od0, .func (PySem.W.fnOf "law" "law" (defArgs sLaw) (defBody sLaw) (defScope sLaw) .none kV0 doc0 pm0 an0 (.ref c) ct0), osl0⟩)
    (hcd : PySem.W.codeIn K (.ref c) "law" = true) (B : Blt mg) (C : Callees P w K mg base CN CM CW) (CK : WordK K mg fC) (TB : TabB base mg c Pt)
    (mgN : mg "NoLetters" = some (.ref CN)) (mgM : mg "NoNumber" = some (.ref CM)) (mgW : mg "NoWord" = some (.ref CW)) (mgG : mg "TooGreat" = some (.ref CG)) (mgS : mg "SwingError" = some (.ref CS))
    (SN : SeenW K CN CS CG CN CW CM "letters") (SM : SeenW K CM CS CG CN CW CM "number") (SW : SeenW K CW CS CG CN CW CM "word") :
    FnG P w K mg base 66 f (PySem.W.fnOf "law" "law" (defArgs sLaw) (defBody sLaw) (defScope sLaw) .none kV0 doc0 pm0 an0 (.ref c) ct0) ["script"] (spLaw K Pt) := by
  refine ⟨fun vs H Q E h => (by obtain ⟨a, ns, rfl, _⟩ := h; rfl), fun A outer s H args us vs Q E gA hr0 e0 hb r h => run_ofS (k := 65) lk hcd scLaw hr0 e0 hb r (by obtain ⟨a, ns, rfl, _⟩ := h; rfl) fun hr => ?_⟩
  obtain ⟨fB, fdB, DB, GB⟩ := C.begun
  obtain ⟨fD, fdD, DD, GD⟩ := C.draw
  obtain ⟨fS, fdS, DS, GS⟩ := C.pickS
  obtain ⟨fQ, fdQ, DQ, GQ⟩ := C.pick
  obtain ⟨fL, fdL, DL, GL⟩ := C.someL
  obtain ⟨fP, fdP, DP, GP⟩ := C.pair
  obtain ⟨fW, fdW, DW, GW⟩ := C.someW
  obtain ⟨fK, fdK, DK, GK⟩ := C.key
  obtain ⟨fI, fdI, DI, GI⟩ := C.is
  obtain ⟨fA, fdA, DA, KA, GA⟩ := C.alike
  obtain ⟨oc, kV, doc, pm, cdv, ct, an, od, osl, lkC, cdC, bC⟩ := CK.ex
  have u70 : (A.deeper (envOfC "law" (defScope sLaw) s.heap.objs.size f (.ref c))).units + 70 < cLine := by have := hr.un; omega
  have u64 : (A.deeper (envOfC "law" (defScope sLaw) s.heap.objs.size f (.ref c))).units + 64 < cLine := by omega
  have gX : (A.deeper (envOfC "law" (defScope sLaw) s.heap.objs.size f (.ref c))).guards = some [] := gA
  refine ⟨_, PSs.nox (pss_cons (ps_set (i := 1) scLaw.nd rfl (Or.inr rfl) (pe_call GB (hr.mono (by decide)) (by rfl) DB.g DB.k DB.b .nil pass0 (pa_cons (pv 0) pa_nil)))
  (pss_cons (ps_for PassesOwn.never rfl (pi_range1 (by rfl) B.range (pa_cons pe_int pa_nil)) (pg_name (i := 2) scLaw.nd rfl (Or.inl rfl)) (pss_cons (ps_set (i := 3) scLaw.nd rfl (Or.inl rfl) (pe_call GL (hr.mono (by decide)) (by rfl) DL.g DL.k DL.b .nil pass0 (pa_cons (pv 1) pa_nil)))
  (pss_cons (ps_asg (pe_call GP (hr.mono (by decide)) (by rfl) DP.g DP.k DP.b .nil pass0 (pa_cons (pv 1) (pa_cons (pv 3) pa_nil))) (pg_tup rfl (pgs_cons (pg_name (i := 4) scLaw.nd rfl (Or.inl rfl)) (pgs_cons (pg_name (i := 5) scLaw.nd rfl (Or.inl rfl)) pgs_nil))))
  (pss_cons (ps_par (i := 6) (j := 7) rfl scLaw.nd rfl rfl (by decide) rfl rfl (pa_cons (pe_call GW (hr.mono (by decide)) (by rfl) DW.g DW.k DW.b .nil pass0 (pa_cons (pv 1) (pa_cons (pv 3) (pa_cons pe_int pa_nil)))) (pa_cons (pe_call GW (hr.mono (by decide)) (by rfl) DW.g DW.k DW.b .nil pass0 (pa_cons (pv 1) (pa_cons (pv 3) (pa_cons pe_int pa_nil)))) pa_nil)) rfl)
  (pss_cons (ps_set (i := 8) scLaw.nd rfl (Or.inl rfl) pe_bl)
  (pss_cons (ps_for PassesOwn.never rfl (pi_range1 (by rfl) B.range (pa_cons pe_int pa_nil)) (pg_name (i := 9) scLaw.nd rfl (Or.inl rfl)) (pss_cons (ps_set (i := 10) scLaw.nd rfl (Or.inl rfl) (pe_cmpR (op_eqN u70) (pe_call GK (hr.mono (by decide)) (by rfl) DK.g DK.k DK.b .nil pass0 (pa_cons (pv 9) (pa_cons (pv 4) pa_nil))) (pe_call GK (hr.mono (by decide)) (by rfl) DK.g DK.k DK.b .nil pass0 (pa_cons (pv 9) (pa_cons (pv 5) pa_nil))) (nomark _)))
  (pss_cons (ps_if (pw_or (pt_not (pt_truth (pe_callG gX GI (hr.mono (by decide)) (by rfl) DI.g DI.k DI.b (pa_cons (pe_call GA (hr.mono (by decide)) (by rfl) DA.g DA.k DA.b .nil (passE0 rfl rfl) (pa_cons (pv 3) (pa_cons (pv 9) (pa_cons (pv 4) (pa_cons (pv 5) pa_nil))))) (pa_cons (pv 10) pa_nil))) (by intro _; rfl))) (pw_or1 (pt_not (pt_truth (pe_callG gX GI (hr.mono (by decide)) (by rfl) DI.g DI.k DI.b (pa_cons (pe_kwCall GA (hr.mono (by decide)) (by rfl) DA.g DA.k KA (passE0 rfl rfl) (pk_cons (pv 4) (pk_cons (pv 5) (pk_cons (pv 9) (pk_cons (pv 3) pk_nil))))) (pa_cons (pv 10) pa_nil))) (by intro _; rfl))))).pt (pss_one (ps_ret pe_bl)) pss_nil)
  (pss_cons (ps_if (pw_or (pw_and (pt_truth (pv 10) (by intro _; rfl)) (pw_and1 (pt_not (pt_truth (pv 8) (by intro _; rfl))))).pt (pw_or1 (pw_and (pt_truth (pv 10) (by intro _; rfl)) (pw_and1 (pt_cmpR op_isnot_bl (pe_call GA (hr.mono (by decide)) (by rfl) DA.g DA.k DA.b .nil (passE0 rfl rfl) (pa_cons (pv 3) (pa_cons (pv 9) (pa_cons (pe_op op_add_str (pe_op op_add_str (pv 6) (pv 4)) (pv 7)) (pa_cons (pe_op op_add_str (pe_op op_add_str (pv 6) (pv 5)) (pv 7)) pa_nil))))) pe_bl (nomark _)))).pt)).pt (pss_one (ps_ret pe_bl)) pss_nil)
  (pss_cons (ps_if (pt_not (pt_truth (pe_callG gX GI (hr.mono (by decide)) (by rfl) DI.g DI.k DI.b (pa_cons (pe_call GA (hr.mono (by decide)) (by rfl) DA.g DA.k DA.b .nil (passE0 rfl rfl) (pa_cons (pv 3) (pa_cons (pv 9) (pa_cons (pe_revS (pv 4)) (pa_cons (pe_revS (pv 5)) pa_nil))))) (pa_cons (pv 10) pa_nil))) (by intro _; rfl))) (pss_one (ps_ret pe_bl)) pss_nil)
  (pss_one (ps_set (i := 8) scLaw.nd rfl (Or.inl rfl) (pv 10))))))))
  (pss_cons (ps_asg (pe_tup (pa_cons (pe_op op_add_str (pe_call GS (hr.mono (by decide)) (by rfl) DS.g DS.k DS.b .nil pass0 (pa_cons (pv 1) (pa_cons (pv 3) pa_nil))) (pe_call GW (hr.mono (by decide)) (by rfl) DW.g DW.k DW.b .nil pass0 (pa_cons (pv 1) (pa_cons (pv 3) (pa_cons pe_int pa_nil))))) (pa_cons (pe_op op_add pe_int (pe_call GD (hr.mono (by decide)) (by rfl) DD.g DD.k DD.b .nil pass0 (pa_cons (pv 1) (pa_cons pe_int pa_nil)))) pa_nil))) (pg_tup rfl (pgs_cons (pg_name (i := 11) scLaw.nd rfl (Or.inr rfl)) (pgs_cons (pg_name (i := 9) scLaw.nd rfl (Or.inl rfl)) pgs_nil))))
  (pss_cons (ps_set (i := 12) scLaw.nd rfl (Or.inl rfl) (pe_join pe_str (pe_lc (own := [("at", 16)]) (g := gName 16) (tt := tYes) (te := tCall spPickS [] E0 (tCons (tVar 1) (tCons (tVar 11) tNil))) rfl scLaw.nd (pi_range1 (by rfl) B.range (pa_cons (pe_call GD (hr.mono (by decide)) (by rfl) DD.g DD.k DD.b .nil pass0 (pa_cons (pv 1) (pa_cons pe_int pa_nil))) pa_nil)) (blkOk_by (N := NL) (sc := defScope sLaw) (by decide +kernel)) (fun _ _ _ _ _ => pg_name (i := 16) scLaw.nd rfl (Or.inl rfl)) (fun _ _ _ _ _ => pts_nil) (fun _ _ _ _ _ => (pe_call GS (hr.mono (by decide)) (by rfl) DS.g DS.k DS.b .nil pass0 (pa_cons (pv 1) (pa_cons (pv 11) pa_nil)))))))
  (pss_one (ps_if (pt_cmpR op_isnot_bl (pe_call GA (hr.mono (by decide)) (by rfl) DA.g DA.k DA.b .nil (passE0 rfl rfl) (pa_cons (pv 3) (pa_cons (pv 9) (pa_cons (pe_op op_mulS (pv 11) (pv 9)) (pa_cons (pe_op op_add_str (pe_op op_add_str (pe_op op_mulS (pv 11) (pv 9)) (pv 12)) (pe_op op_mulS (pv 11) (pe_op op_add (pv 9) (pe_call GD (hr.mono (by decide)) (by rfl) DD.g DD.k DD.b .nil pass0 (pa_cons (pv 1) (pa_cons pe_int pa_nil)))))) pa_nil))))) pe_bl (nomark _)) (pss_one (ps_ret pe_bl)) pss_nil))))))))))
  (pss_cons (ps_set (i := 13) scLaw.nd rfl (Or.inl rfl) (pe_lst (pa_cons (pe_tup (pa_cons (pe_call GQ (hr.mono (by decide)) (by rfl) DQ.g DQ.k DQ.b .nil pass0 (pa_cons (pv 1) (pa_cons (pe_lst (pa_cons pe_non (pa_cons pe_str (pa_cons pe_str (pa_cons pe_str (pa_cons pe_str (pa_cons pe_str (pa_cons pe_int pa_nil)))))))) pa_nil))) (pa_cons pe_non (pa_cons pe_non (pa_cons pe_non pa_nil))))) (pa_cons (pe_tup (pa_cons (pv 3) (pa_cons (pe_call GQ (hr.mono (by decide)) (by rfl) DQ.g DQ.k DQ.b .nil pass0 (pa_cons (pv 1) (pa_cons (pe_lst (pa_cons (pe_un un_neg pe_int) (pa_cons pe_int (pa_cons pe_non (pa_cons pe_bl (pa_cons pe_str pa_nil)))))) pa_nil))) (pa_cons pe_non (pa_cons pe_non pa_nil))))) (pa_cons (pe_tup (pa_cons (pv 3) (pa_cons pe_int (pa_cons (pe_call GQ (hr.mono (by decide)) (by rfl) DQ.g DQ.k DQ.b .nil pass0 (pa_cons (pv 1) (pa_cons (pe_lst (pa_cons pe_non (pa_cons pe_str (pa_cons pe_int (pa_cons (pe_op op_mulS pe_str pe_int) (pa_cons (pe_lst (pa_cons pe_str pa_nil)) pa_nil)))))) pa_nil))) (pa_cons pe_non pa_nil))))) (pa_cons (pe_tup (pa_cons (pv 3) (pa_cons pe_int (pa_cons pe_str (pa_cons (pe_call GQ (hr.mono (by decide)) (by rfl) DQ.g DQ.k DQ.b .nil pass0 (pa_cons (pv 1) (pa_cons (pe_lst (pa_cons pe_non (pa_cons pe_str (pa_cons pe_int (pa_cons (pe_tup (pa_cons pe_str pa_nil)) pa_nil))))) pa_nil))) pa_nil))))) pa_nil))))))
  (pss_cons (ps_set (i := 14) scLaw.nd rfl (Or.inl rfl) (pe_lst pa_nil))
  (pss_cons (ps_for PassesOwn.never rfl (pi_list (pv 13)) (pg_name (i := 15) scLaw.nd rfl (Or.inr rfl)) (pss_one (ps_expr (pe_bm PySem.F.plainAttrs_list PySem.F.slot_list_append PySem.F.type_list_append mt_append (pv 14) (pa_cons (pe_lamcall (k := 63) (T := [(Pt, qLam)]) (TT := TWord K CS CG CN CW CM) (Ng := ["action", "caught", "error"]) (t := fun E => tCall (spAlike K CN CM CW) [] E (tCons (tOp (rIxT K) (tVar 15) (tC (.int 0))) (tCons (tOp (rIxT K) (tVar 15) (tC (.int 1))) (tCons (tOp (rIxT K) (tVar 15) (tC (.int 2))) (tCons (tOp (rIxT K) (tVar 15) (tC (.int 3))) tNil))))) (by rfl) CK.g CK.k lkC cdC bC scWord rfl (Or.inl rfl) (word_gives B.isi mgS mgG mgN mgW mgM) TB rfl List.mem_cons_self (fun p hp e => by cases List.mem_singleton.mp hp; rfl) hr (lamS_by (sc := defScope sLaw) (by decide +kernel)) rfl (fun _ _ _ _ _ => rfl) (fun A outer s H E f c' hr2 => pe_call GA (hr2.mono (by decide)) (by rfl) DA.g DA.k DA.b .nil (passes_call (takes_of rfl rfl rfl rfl) fun _ _ _ _ h => h) (pa_cons (pe_ix ix_tup (pv 15) pe_int (fun _ _ => rfl)) (pa_cons (pe_ix ix_tup (pv 15) pe_int (fun _ _ => rfl)) (pa_cons (pe_ix ix_tup (pv 15) pe_int (fun _ _ => rfl)) (pa_cons (pe_ix ix_tup (pv 15) pe_int (fun _ _ => rfl)) pa_nil)))))) pa_nil)))))
  (pss_one (ps_ret (pe_cmpR (op_eqD u64) (pv 14) (pe_lst (pa_cons pe_str (pa_cons pe_str (pa_cons pe_str (pa_cons pe_str pa_nil))))) (nomark _)))))))))
, ?_⟩
  have sz : sizeLine = 16777216 := sizeLine_eq
  obtain ⟨a0, ns, rfl, hS, hn, hP, q⟩ := h
  refine ⟨_, rfl, a0, ns, rfl, hS, by omega, fun H1 a g cA cs g1 s1 na ng => ?_⟩
  have L1 : LS H1 a g cA cs 0 Pt := ⟨s1, fun p hp => by cases List.mem_singleton.mp hp; exact TabS.nil (g1 _ _ hP)⟩
  refine ⟨_, rfl, by decide, by decide, ?_⟩
  refine for_it walk_range (fun i σ H' => (∃ v2 v3 v4 v5 v6 v7 v8 v9 v10 v11 v12 v13 v14 v15 v16 : Option V, σ = [some (.ref a0), some (.ref a), v2, v3, v4, v5, v6, v7, v8, v9, v10, v11, v12, v13, v14, v15, v16] ∧ (i = 0 ∨ ∃ ls, v3 = some (.str ls) ∧ ls ∈ lettersL)) ∧ LS H' a g cA cs (1000 * i) Pt)
    ⟨⟨none, none, none, none, none, none, none, none, none, none, none, none, none, none, none, rfl, .inl rfl⟩, L1⟩ (fun _ _ _ _ _ => trivial) ?_ ?_
  · rintro i x σ H2 H3 hi ⟨⟨v2, v3, v4, v5, v6, v7, v8, v9, v10, v11, v12, v13, v14, v15, v16, rfl, _⟩, L⟩ ⟨rfl, rfl⟩
    have hi6 : i < 6 := hi
    refine ⟨_, rfl, a, g, cA, cs, 1000 * i, rfl, L.sat, by omega, fun H4 ls hls s4 b4 => ?_⟩
    have lo := lot_of hls
    have L4 := L.but b4 s4
    have hlsz : ls.length ≤ sizeLine := by have := lo.len; omega
    have hl3 := lo.len
    have hl0 := lo.pos
    -- one, other, u, v
    refine ⟨_, rfl, _, rfl, a, g, cA, cs, 1000 * i + 1, ls, rfl, hl0, by omega, L4.sat, by omega, fun H5 tp one other o1 o2 l1 l2 kt s5 b5 => ?_⟩
    have L5 := L4.but b5 s5
    refine ⟨tp, _, rfl, .inl (.inl kt), rfl, _, _, rfl, _, _, rfl, rfl, ?_⟩
    clear kt
    refine ⟨_, rfl, _, rfl, a, g, cA, cs, 1000 * i + 1 + 300, 3, ls, rfl, hl0, by omega, by decide, L5.sat, by omega, fun H6 wu wu1 wu2 s6 b6 => ?_⟩
    have L6 := L5.but b6 s6
    refine ⟨_, rfl, _, rfl, a, g, cA, cs, 1000 * i + 1 + 300 + 50, 3, ls, rfl, hl0, by omega, by decide, L6.sat, by omega, fun H7 wv wv1 wv2 s7 b7 => ⟨_, _, rfl, ?_⟩⟩
    have L7 := (L6.but b7 s7).mono (show 1000 * i + 1 + 300 + 50 + 50 ≤ 1000 * i + 410 by omega)
    clear s4 s5 s6 s7 b4 b5 b6 b7 L4 L5 L6
    generalize hO : one.cps.toList = O
    generalize hR : other.cps.toList = R
    -- for n in range(4)
    refine ⟨_, rfl, by decide, by decide, ?_⟩
    refine for_it walk_range (fun j σ H' => (∃ v9 v10 : Option V, σ = [some (.ref a0), some (.ref a), some (.int (0 + (i : Int))), some (.str ls), some (.str one), some (.str other), some (.str wu), some (.str wv), some (.bl (befB j O R)), v9, v10, v11, v12, v13, v14, v15, v16]) ∧ Grows H7 H')
      ⟨⟨v9, v10, rfl⟩, Grows.refl _⟩ (fun _ _ _ _ _ => trivial) ?_ ?_
    · rintro j x σ H8 H9 hj ⟨⟨v9, v10, rfl⟩, g8⟩ ⟨rfl, rfl⟩
      have hj4 : j < 4 := hj
      have e0 : (0 + (j : Int)) = ((j : Nat) : Int) := Int.zero_add _
      dsimp only [gName]
      rw [e0]
      have ok1 := okW_of o1 (show one.length ≤ 20000 by omega)
      have ok2 := okW_of o2 (show other.length ≤ 20000 by omega)
      refine ⟨_, rfl, _, rfl, j, one, rfl, by omega, (show one.length ≤ 59 by omega), by decide, fun H10 k1 g10 nk1 => ?_⟩
      refine ⟨_, rfl, _, rfl, j, other, rfl, by omega, (show other.length ≤ 59 by omega), by decide, fun H11 k2 g11 nk2 => ?_⟩
      rw [hO] at nk1
      rw [hR] at nk2
      obtain ⟨ks, hks⟩ := key_tup j O
      obtain ⟨ks', hks'⟩ := key_tup j R
      have dp := key_depth O.length j O (Nat.le_refl _)
      have lO : O.length = one.length := by rw [← hO, cut_len]
      have lR : R.length = other.length := by rw [← hR, cut_len]
      rw [hks] at nk1 dp
      rw [hks'] at nk2
      refine ⟨ks, ks', nk1.keep (fun b xs e => g11 _ _ e) _, nk2, by omega, ?_⟩
      rw [show NestedKey.beq (.tup ks) (.tup ks') = alikeB j O R from by rw [← hks, ← hks']; rfl]
      generalize hd : alikeB j O R = d
      have hd2 : alikeB j R O = d := by rw [alikeB_symm]; exact hd
      have g811 := (g8.trans g10).trans g11
      clear nk1 nk2
      -- turn_alike(letters, n, one, other), by names
      refine ⟨_, rfl, _, rfl, _, rfl, _, rfl, .str ls, .int (j : Nat), .str one, .str other, rfl, .inr ⟨ls, rfl, hlsz, lo.ok, .inr ⟨j, rfl, by omega, .inr ⟨one, rfl, by omega, ok1, .inr ⟨other, rfl, by omega, ok2, fun H12 g12 => ?_⟩⟩⟩⟩⟩
      rw [hO, hR, hd]
      refine ⟨_, rfl, .bl d, .bl d, .bool d, rfl, .bl d, .bl d, good_bool d, Nat.zero_lt_one, fun H13 g13 => ⟨true, rfl, if_neg_of (by decide) ?_⟩⟩
      refine ⟨_, rfl, _, rfl, _, rfl, _, rfl, .str ls, .int (j : Nat), .str other, .str one, rfl, .inr ⟨ls, rfl, hlsz, lo.ok, .inr ⟨j, rfl, by omega, .inr ⟨other, rfl, by omega, ok2, .inr ⟨one, rfl, by omega, ok1, fun H14 g14 => ?_⟩⟩⟩⟩⟩
      rw [hO, hR, hd2]
      refine ⟨_, rfl, .bl d, .bl d, .bool d, rfl, .bl d, .bl d, good_bool d, Nat.zero_lt_one, fun H15 g15 => ⟨true, rfl, if_neg_of (by decide) ?_⟩⟩
      have g815 := (((g811.trans g12).trans g13).trans g14).trans g15
      clear g811 g10 g11 g12 g13 g14 g15
      -- alike by lesser numbers, with the same words put in
      refine go_part (K := K) (i8 := 8) (i10 := 10) (d := d) (b := befB j O R) rfl rfl (fun h => bef_due (hd.trans h)) (fun h Q hQ => ?_) (fun H16 g16 => ?_)
      · have e1 := app_len wu one
        have e2 := app_len (wu ++ one) wv
        have e3 := app_len wu other
        have e4 := app_len (wu ++ other) wv
        refine ⟨_, rfl, _, rfl, _, rfl, _, rfl, wu, one, rfl, rfl, by omega, _, rfl, _, wv, rfl, rfl, by omega, _, rfl, _, rfl, wu, other, rfl, rfl, by omega, _, rfl, _, wv, rfl, rfl, by omega, ?_⟩
        refine ⟨.str ls, .int (j : Nat), .str (wu ++ one ++ wv), .str (wu ++ other ++ wv), rfl, .inr ⟨ls, rfl, hlsz, lo.ok, .inr ⟨j, rfl, by omega, .inr ⟨_, rfl, by omega, okW_of ((wu1.app o1).app wv1) (by omega), .inr ⟨_, rfl, by omega, okW_of ((wu1.app o2).app wv1) (by omega), fun H16 g16 => ?_⟩⟩⟩⟩⟩
        rw [alikeB_true (by
          rw [app_cps, app_cps, app_cps, app_cps, hO, hR]
          exact alike_in _ _ (alikeB_iff.mp (hd.trans h)))]
        exact ⟨true, true, rfl, rfl, false, rfl, hQ H16 g16⟩
      -- turned about
      refine ⟨_, rfl, _, rfl, _, rfl, one, rfl, by omega, _, rfl, other, rfl, by omega, ?_⟩
      have r1 := rev_len one
      have r2 := rev_len other
      refine ⟨.str ls, .int (j : Nat), .str (revS one), .str (revS other), rfl, .inr ⟨ls, rfl, hlsz, lo.ok, .inr ⟨j, rfl, by omega, .inr ⟨_, rfl, by omega, okW_of o1.rev (by omega), .inr ⟨_, rfl, by omega, okW_of o2.rev (by omega), fun H17 g17 => ?_⟩⟩⟩⟩⟩
      rw [show alikeB j (revS one).cps.toList (revS other).cps.toList = d from by
        rw [show (revS one).cps.toList = O.reverse from by rw [← hO]; rfl, show (revS other).cps.toList = R.reverse from by rw [← hR]; rfl, alikeB_rev]
        exact hd]
      refine ⟨_, rfl, .bl d, .bl d, .bool d, rfl, .bl d, .bl d, good_bool d, Nat.zero_lt_one, fun H18 g18 => ⟨true, rfl, if_neg_of (by decide) ?_⟩⟩
      have eb : befB (j + 1) O R = d := (bef_succ j O R).trans hd
      exact ⟨_, rfl, ⟨some (.int (j : Nat)), some (.bl d), by rw [eb]; rfl⟩, ((g815.trans g16).trans g17).trans g18⟩
    · rintro σ H8 ⟨⟨v9, v10, rfl⟩, g8⟩
      have L8 := L7.grows g8
      clear L7
      -- piece, n
      refine ⟨_, rfl, _, rfl, a, g, cA, cs, 1000 * i + 410, ls, rfl, L8.sat, by omega, hl0, by omega, fun H9 d hd s9 b9 => ?_⟩
      have L9 := L8.but b9 s9
      refine ⟨_, rfl, _, rfl, a, g, cA, cs, 1000 * i + 411, 2, ls, rfl, hl0, by omega, by decide, L9.sat, by omega, fun H10 w2 hw2 l2 s10 b10 => ?_⟩
      have L10 := L9.but b10 s10
      have dl : (sg d).length = 1 := rfl
      have pl := app_len (sg d) w2
      have po := (Of.sg hd).app hw2
      refine ⟨sg d, w2, rfl, rfl, by omega, ?_⟩
      generalize sg d ++ w2 = piece at pl po ⊢
      refine ⟨_, rfl, a, g, cA, cs, 1000 * i + 461, 4, rfl, L10.sat, by omega, by decide, by decide, fun H11 k k0 k1 s11 b11 => ⟨_, _, rfl, rfl, ?_⟩⟩
      have L11 := L10.but b11 s11
      obtain ⟨m, em⟩ : ∃ m : Nat, (1 + k : Int) = (m : Nat) := ⟨(1 + k).toNat, by omega⟩
      dsimp only
      rw [em]
      have hm4 : m ≤ 4 := by omega
      refine ⟨by show 2 ≤ sizeLine; decide, fun t nt => ?_⟩
      have gt : Grows H11 (upd H11 t (.tup [.str piece, .int (m : Nat)])) := Grows.new nt
      refine ⟨t, _, rfl, .inl (.inl upd_same), rfl, _, _, rfl, _, _, rfl, rfl, ?_⟩
      generalize upd H11 t (.tup [.str piece, .int (m : Nat)]) = H12 at gt ⊢
      have L12 := L11.grows gt
      -- some
      refine ⟨⟨_, rfl⟩, _, rfl, a, g, cA, cs, 1000 * i + 462, 4, rfl, L12.sat, by omega, by decide, by decide, fun H13 k2 k20 k21 s13 b13 => ⟨_, rfl, by omega, by omega, fun D nD => ?_⟩⟩
      have L13 := L12.but b13 s13
      refine lc_it walk_range (PickP H13 a g cA cs (1000 * i + 463) piece D) (pick0 s13 nD) (fun _ _ _ _ => trivial) ?_ ?_
      · rintro j x H14 H15 hj p ⟨rfl, rfl⟩
        refine ⟨rfl, ?_⟩
        exact pickS (js := 1) (jt := 11) s13 nD p rfl rfl (by omega) (by omega) (by omega) (by omega)
      · rintro H14 ⟨s14, b14, ds, hdl, hds, hD⟩
        obtain ⟨e1, e2, hz, hzl⟩ := pick_join (by omega) hds hD
        refine ⟨"", D, ds.map sg, rfl, rfl, .inl (.inl (.inl e1)), e2, ?_⟩
        generalize Txt.join "" (ds.map sg) = z at hz hzl ⊢
        have L14 := L13.but b14 s14
        -- what is pumped
        have pl3 : piece.length ≤ 3 := by omega
        have ml := mul_len piece m
        have mb : piece.length * m ≤ 3 * 4 := Nat.mul_le_mul pl3 hm4
        have zO : Of ls z := fun c hc => po c (hz c hc)
        have e3 := app_len (Txt.mul piece (m : Nat)) z
        refine ⟨_, rfl, _, rfl, _, rfl, _, rfl, piece, m, rfl, rfl, by omega, by omega, _, rfl, _, rfl, piece, m, rfl, rfl, by omega, by omega, _, rfl, _, z, rfl, rfl, by omega, _, rfl, _, rfl, _, rfl, a, g, cA, cs, 1000 * i + 463 + k2.toNat, 2, rfl, s14, by omega, by decide, by decide, fun H15 k3 k30 k31 s15 b15 => ?_⟩
        have L15 := L14.but b15 s15
        obtain ⟨m2, em2⟩ : ∃ m2 : Nat, (((m : Nat) : Int) + k3) = (m2 : Nat) := ⟨(((m : Nat) : Int) + k3).toNat, by omega⟩
        refine ⟨_, _, rfl, rfl, ?_⟩
        dsimp only
        rw [em2]
        have hm2 : m2 ≤ 5 := by omega
        have ml2 := mul_len piece m2
        have mb2 : piece.length * m2 ≤ 3 * 5 := Nat.mul_le_mul pl3 hm2
        have e4 := app_len (Txt.mul piece (m : Nat) ++ z) (Txt.mul piece (m2 : Nat))
        refine ⟨piece, m2, rfl, rfl, by omega, by omega, _, _, rfl, rfl, by omega, ?_⟩
        refine ⟨.str ls, .int (m : Nat), .str (Txt.mul piece (m : Nat)), .str (Txt.mul piece (m : Nat) ++ z ++ Txt.mul piece (m2 : Nat)), rfl, .inr ⟨ls, rfl, hlsz, lo.ok, .inr ⟨m, rfl, hm4, .inr ⟨_, rfl, by omega, okW_of (po.mul m) (by omega), .inr ⟨_, rfl, by omega, okW_of (((po.mul m).app zO).app (po.mul m2)) (by omega), fun H16 g16 => ?_⟩⟩⟩⟩⟩
        rw [alikeB_true (by
          rw [app_cps, app_cps, mul_cps, mul_cps]
          exact alike_pump piece.cps.toList m z.cps.toList m2 hz (by omega))]
        exact ⟨true, true, rfl, rfl, false, rfl, if_neg_of (by decide) ⟨⟨_, _, _, _, _, _, _, _, _, _, _, _, _, _, _, rfl, .inr ⟨ls, rfl, hls⟩⟩, (L15.grows g16).mono (by omega)⟩⟩
  · rintro σ H2 ⟨⟨v2, v3, v4, v5, v6, v7, v8, v9, v10, v11, v12, v13, v14, v15, v16, rfl, hv⟩, L⟩
    obtain ⟨ls, rfl, hls⟩ : ∃ ls, v3 = some (.str ls) ∧ ls ∈ lettersL := by
      rcases hv with h | h
      · cases h
      · exact h
    have lo := lot_of hls
    have hlsz : ls.length ≤ sizeLine := by have := lo.len; omega
    have L := L.mono (show 1000 * (6 : Int).toNat ≤ 6000 by decide)
    -- the first
    refine ⟨_, rfl, by show 7 ≤ sizeLine; decide, fun p np => ?_⟩
    have gp : Grows H2 (upd H2 p (.lst [.non, .str "", .str "ba", .str "aa", .str "abcde", .str "A", .int 5])) := Grows.new np
    refine ⟨a, g, cA, p, cs, 6000, [.non, .str "", .str "ba", .str "aa", .str "abcde", .str "A", .int 5], rfl, (L.grows gp).sat, by omega, upd_same, L.offG np, by simp, by show 7 ≤ 1000000; decide, fun H3 x1 hx1 s3 b3 => ?_⟩
    have L3 := (L.grows gp).but b3 s3
    clear s3 b3 L gp
    refine ⟨by show 4 ≤ sizeLine; decide, fun t1 nt1 => ?_⟩
    have g3 : Grows H3 (upd H3 t1 (.tup [x1, .non, .non, .non])) := Grows.new nt1
    have k1 : upd H3 t1 (.tup [x1, .non, .non, .non]) t1 = some (.tup [x1, .non, .non, .non]) := upd_same
    have t1a := L3.offA' nt1
    have t1g := L3.offG nt1
    generalize upd H3 t1 (.tup [x1, .non, .non, .non]) = H4 at g3 k1 ⊢
    have L4 := L3.grows g3
    -- the second
    refine ⟨_, rfl, _, rfl, _, rfl, ?_⟩
    refine ⟨by show 5 ≤ sizeLine; decide, fun p2 np2 => ?_⟩
    have gp : Grows H4 (upd H4 p2 (.lst [.int (-1), .int 5, .non, .bl true, .str "1"])) := Grows.new np2
    refine ⟨a, g, cA, p2, cs, 6001, [.int (-1), .int 5, .non, .bl true, .str "1"], rfl, (L4.grows gp).sat, by omega, upd_same, L4.offG np2, by simp, by show 5 ≤ 1000000; decide, fun H5 x2 hx2 s5 b5 => ?_⟩
    have L5 := (L4.grows gp).but b5 s5
    have k1 := b5 _ _ (gp _ _ k1) t1a t1g
    clear s5 b5 gp
    refine ⟨by show 4 ≤ sizeLine; decide, fun t2 nt2 => ?_⟩
    have g5 : Grows H5 (upd H5 t2 (.tup [.str ls, x2, .non, .non])) := Grows.new nt2
    have k2 : upd H5 t2 (.tup [.str ls, x2, .non, .non]) t2 = some (.tup [.str ls, x2, .non, .non]) := upd_same
    have t2a := L5.offA' nt2
    have t2g := L5.offG nt2
    generalize upd H5 t2 (.tup [.str ls, x2, .non, .non]) = H6 at g5 k2 ⊢
    have k1 := g5 _ _ k1
    have L6 := L5.grows g5
    clear L3 L4 L5 g3 g5
    -- the third
    refine ⟨_, rfl, _, rfl, "a", 20001, rfl, rfl, by decide, by decide, ?_⟩
    generalize hlong : Txt.mul "a" ((20001 : Nat) : Int) = long
    refine ⟨by show 1 ≤ sizeLine; decide, fun q3 nq3 => ?_⟩
    have gq : Grows H6 (upd H6 q3 (.lst [.str "a"])) := Grows.new nq3
    have kq3 : upd H6 q3 (.lst [.str "a"]) q3 = some (.lst [.str "a"]) := upd_same
    have q3a := L6.offA' nq3
    have q3g := L6.offG nq3
    generalize upd H6 q3 (.lst [.str "a"]) = H7 at gq kq3 ⊢
    have k1 := gq _ _ k1
    have k2 := gq _ _ k2
    have L7 := L6.grows gq
    refine ⟨by show 5 ≤ sizeLine; decide, fun p3 np3 => ?_⟩
    have gp : Grows H7 (upd H7 p3 (.lst [.non, .str "?", .int 5, .str long, .ref q3])) := Grows.new np3
    refine ⟨a, g, cA, p3, cs, 6002, [.non, .str "?", .int 5, .str long, .ref q3], rfl, (L7.grows gp).sat, by omega, upd_same, L7.offG np3, by simp, by show 5 ≤ 1000000; decide, fun H8 x3 hx3 s8 b8 => ?_⟩
    have L8 := (L7.grows gp).but b8 s8
    have k1 := b8 _ _ (gp _ _ k1) t1a t1g
    have k2 := b8 _ _ (gp _ _ k2) t2a t2g
    have kq3 := b8 _ _ (gp _ _ kq3) q3a q3g
    clear s8 b8 gp gq L6 L7
    refine ⟨by show 4 ≤ sizeLine; decide, fun t3 nt3 => ?_⟩
    have g8 : Grows H8 (upd H8 t3 (.tup [.str ls, .int 1, x3, .non])) := Grows.new nt3
    have k3 : upd H8 t3 (.tup [.str ls, .int 1, x3, .non]) t3 = some (.tup [.str ls, .int 1, x3, .non]) := upd_same
    have t3a := L8.offA' nt3
    have t3g := L8.offG nt3
    generalize upd H8 t3 (.tup [.str ls, .int 1, x3, .non]) = H9 at g8 k3 ⊢
    have k1 := g8 _ _ k1
    have k2 := g8 _ _ k2
    have kq3 := g8 _ _ kq3
    have L9 := L8.grows g8
    clear L8 g8
    -- the fourth
    refine ⟨_, rfl, _, rfl, ?_⟩
    refine ⟨by show 1 ≤ sizeLine; decide, fun q4 nq4 => ?_⟩
    have gq : Grows H9 (upd H9 q4 (.tup [.str "a"])) := Grows.new nq4
    have kq4 : upd H9 q4 (.tup [.str "a"]) q4 = some (.tup [.str "a"]) := upd_same
    have q4a := L9.offA' nq4
    have q4g := L9.offG nq4
    generalize upd H9 q4 (.tup [.str "a"]) = H10 at gq kq4 ⊢
    have k1 := gq _ _ k1
    have k2 := gq _ _ k2
    have k3 := gq _ _ k3
    have kq3 := gq _ _ kq3
    have L10 := L9.grows gq
    refine ⟨by show 4 ≤ sizeLine; decide, fun p4 np4 => ?_⟩
    have gp : Grows H10 (upd H10 p4 (.lst [.non, .str "?", .int 5, .ref q4])) := Grows.new np4
    refine ⟨a, g, cA, p4, cs, 6003, [.non, .str "?", .int 5, .ref q4], rfl, (L10.grows gp).sat, by omega, upd_same, L10.offG np4, by simp, by show 4 ≤ 1000000; decide, fun H11 x4 hx4 s11 b11 => ?_⟩
    have L11 := (L10.grows gp).but b11 s11
    have k1 := b11 _ _ (gp _ _ k1) t1a t1g
    have k2 := b11 _ _ (gp _ _ k2) t2a t2g
    have k3 := b11 _ _ (gp _ _ k3) t3a t3g
    have kq3 := b11 _ _ (gp _ _ kq3) q3a q3g
    have kq4 := b11 _ _ (gp _ _ kq4) q4a q4g
    clear s11 b11 gp gq L9 L10
    refine ⟨by show 4 ≤ sizeLine; decide, fun t4 nt4 => ?_⟩
    have g11 : Grows H11 (upd H11 t4 (.tup [.str ls, .int 1, .str "", x4])) := Grows.new nt4
    have k4 : upd H11 t4 (.tup [.str ls, .int 1, .str "", x4]) t4 = some (.tup [.str ls, .int 1, .str "", x4]) := upd_same
    generalize upd H11 t4 (.tup [.str ls, .int 1, .str "", x4]) = H12 at g11 k4 ⊢
    have k1 := g11 _ _ k1
    have k2 := g11 _ _ k2
    have k3 := g11 _ _ k3
    have kq3 := g11 _ _ kq3
    have kq4 := g11 _ _ kq4
    have L12 := L11.grows g11
    clear L11 g11
    -- wrong, found
    refine ⟨by show 4 ≤ sizeLine; decide, fun W nW => ?_⟩
    have gW : Grows H12 (upd H12 W (.lst [.ref t1, .ref t2, .ref t3, .ref t4])) := Grows.new nW
    have kW : upd H12 W (.lst [.ref t1, .ref t2, .ref t3, .ref t4]) W = some (.lst [.ref t1, .ref t2, .ref t3, .ref t4]) := upd_same
    generalize upd H12 W (.lst [.ref t1, .ref t2, .ref t3, .ref t4]) = H13 at gW kW ⊢
    have k1 := gW _ _ k1
    have k2 := gW _ _ k2
    have k3 := gW _ _ k3
    have k4 := gW _ _ k4
    have kq3 := gW _ _ kq3
    have kq4 := gW _ _ kq4
    have L13 := L12.grows gW
    clear L12 gW
    refine ⟨by show 0 ≤ sizeLine; decide, fun F nF => ?_⟩
    have gF : Grows H13 (upd H13 F (.lst [])) := Grows.new nF
    have kF : upd H13 F (.lst []) F = some (.lst []) := upd_same
    have dG := L13.offG nF
    have dC := L13.offC nF
    generalize upd H13 F (.lst []) = H14 at gF kF ⊢
    have L14 := L13.grows gF
    refine ⟨_, rfl, W, rfl, ⟨_, .inl (.inl (gF _ _ kW))⟩, for_list (K := K) (a := W) (xs := [.ref t1, .ref t2, .ref t3, .ref t4]) (fun j σ H' => (∃ v15, σ = [some (.ref a0), some (.ref a), v2, some (.str ls), v4, v5, v6, v7, v8, v9, v10, v11, v12, some (.ref W), some (.ref F), v15, v16]) ∧ ExtN H13 H' ∧ LS H' a g cA cs 6004 Pt ∧ H' F = some (.lst ((lotsW.take j).map V.str)))
      ⟨⟨v15, rfl⟩, gF.extN, L14, kF⟩ (fun j σ H' _ h => .inl (.inl (h.2.1 _ _ kW (by intro ps z; cases z)))) ?_ ?_⟩
    · rintro j x σ H15 hj ⟨⟨v15, rfl⟩, e15, L15, kF15⟩
      refine ⟨_, rfl, Or.inl ⟨rfl, _, .inl (.inl kF15)⟩, L15.tab, fun H16 e16 t16 Qf => ?_⟩
      have ee := ExtN.tr e15 e16
      have nt : ∀ {xs : List V} (ps : Array Value), HO.tup xs ≠ .tbl ps := by intro xs ps z; cases z
      have nl : ∀ {xs : List V} (ps : Array Value), HO.lst xs ≠ .tbl ps := by intro xs ps z; cases z
      have L16 := L15.ext e16 t16
      have kF16 := e16 _ _ kF15 nl
      have fin : ∀ (H' : Hp) (D ax : Addr) (z : Str), Grows H16 H' → H' ax = none → lotsW[j]? = some z →
          upd H' ax (.ext (Kept (.ref D) none ax)) F = some (.lst ((lotsW.take j).map V.str)) ∧ ExtN H13 (upd (upd H' ax (.ext (Kept (.ref D) none ax))) F (.lst ((lotsW.take j).map V.str ++ [.str z]))) ∧ LS (upd (upd H' ax (.ext (Kept (.ref D) none ax))) F (.lst ((lotsW.take j).map V.str ++ [.str z]))) a g cA cs 6004 Pt ∧
          upd (upd H' ax (.ext (Kept (.ref D) none ax))) F (.lst ((lotsW.take j).map V.str ++ [.str z])) F = some (.lst ((lotsW.take (j + 1)).map V.str)) := fun H' D ax z g' nax hz => by
        have gK : Grows H' (upd H' ax (.ext (Kept (.ref D) none ax))) := Grows.new nax
        generalize upd H' ax (.ext (Kept (.ref D) none ax)) = H'' at gK ⊢
        have kF := gK _ _ (g' _ _ kF16)
        refine ⟨kF, fun b o e n => ?_, ((L16.grows g').grows gK).put kF dG dC _, ?_⟩
        · rw [upd_ne (ne_of_none e nF)]
          exact gK _ _ (g' _ _ (ee _ _ e n))
        · rw [upd_same, take_snoc hz, List.map_append]
          rfl
      have le4 : ((lotsW.take j).map V.str).length < sizeLine := by
        rw [List.length_map, List.length_take]
        have : lotsW.length = 4 := rfl
        omega
      have k1 := ee _ _ k1 nt
      have k2 := ee _ _ k2 nt
      have k3 := ee _ _ k3 nt
      have k4 := ee _ _ k4 nt
      have kq3 := ee _ _ kq3 nl
      have kq4 := ee _ _ kq4 nt
      match j, hj, fin, le4 with
      | 0, hj, fin, le4 =>
        cases (Option.some.inj hj : V.ref t1 = x)
        refine ⟨_, rfl, t1, _, 0, x1, rfl, rfl, .inl (.inl k1), rfl, _, rfl, t1, _, 1, .non, rfl, rfl, .inl (.inl k1), rfl, _, rfl, t1, _, 2, .non, rfl, rfl, .inl (.inl k1), rfl, _, rfl, t1, _, 3, .non, rfl, rfl, .inl (.inl k1), rfl, x1, .non, .non, .non, rfl, .inl ⟨badL_of hx1, fun H' g' => ⟨SN.exm, CN, rfl, rfl, SN.ec, SN.wd _ fun ax nax => ?_⟩⟩⟩
        obtain ⟨f1, f2, f3, f4⟩ := fin H' CN ax "letters" g' nax rfl
        exact ⟨F, _, _, rfl, rfl, f1, le4, ⟨_, rfl⟩, f2, f3, f4⟩
      | 1, hj, fin, le4 =>
        cases (Option.some.inj hj : V.ref t2 = x)
        refine ⟨_, rfl, t2, _, 0, .str ls, rfl, rfl, .inl (.inl k2), rfl, _, rfl, t2, _, 1, x2, rfl, rfl, .inl (.inl k2), rfl, _, rfl, t2, _, 2, .non, rfl, rfl, .inl (.inl k2), rfl, _, rfl, t2, _, 3, .non, rfl, rfl, .inl (.inl k2), rfl, .str ls, x2, .non, .non, rfl, .inr ⟨ls, rfl, hlsz, lo.ok, .inl ⟨badT_of hx2, fun H' g' => ⟨SM.exm, CM, rfl, rfl, SM.ec, SM.wd _ fun ax nax => ?_⟩⟩⟩⟩
        obtain ⟨f1, f2, f3, f4⟩ := fin H' CM ax "number" g' nax rfl
        exact ⟨F, _, _, rfl, rfl, f1, le4, ⟨_, rfl⟩, f2, f3, f4⟩
      | 2, hj, fin, le4 =>
        cases (Option.some.inj hj : V.ref t3 = x)
        have bad3 : BadW K H16 ls x3 := by
          simp only [List.mem_cons, List.not_mem_nil, or_false] at hx3
          rcases hx3 with rfl | rfl | rfl | rfl | rfl
          · exact bad_non
          · exact bad_q hls
          · exact bad_five
          · refine bad_long ?_
            rw [← hlong, mul_len]
            rfl
          · exact .inl ⟨"list", .base (.lst kq3), by decide +kernel⟩
        refine ⟨_, rfl, t3, _, 0, .str ls, rfl, rfl, .inl (.inl k3), rfl, _, rfl, t3, _, 1, .int 1, rfl, rfl, .inl (.inl k3), rfl, _, rfl, t3, _, 2, x3, rfl, rfl, .inl (.inl k3), rfl, _, rfl, t3, _, 3, .non, rfl, rfl, .inl (.inl k3), rfl, .str ls, .int 1, x3, .non, rfl, .inr ⟨ls, rfl, hlsz, lo.ok, .inr ⟨1, rfl, by decide, .inl ⟨bad3, fun H' g' => ⟨SW.exm, CW, rfl, rfl, SW.ec, SW.wd _ fun ax nax => ?_⟩⟩⟩⟩⟩
        obtain ⟨f1, f2, f3, f4⟩ := fin H' CW ax "word" g' nax rfl
        exact ⟨F, _, _, rfl, rfl, f1, le4, ⟨_, rfl⟩, f2, f3, f4⟩
      | 3, hj, fin, le4 =>
        cases (Option.some.inj hj : V.ref t4 = x)
        have bad4 : BadW K H16 ls x4 := by
          simp only [List.mem_cons, List.not_mem_nil, or_false] at hx4
          rcases hx4 with rfl | rfl | rfl | rfl
          · exact bad_non
          · exact bad_q hls
          · exact bad_five
          · exact .inl ⟨"tuple", .base (.tup kq4), by decide +kernel⟩
        refine ⟨_, rfl, t4, _, 0, .str ls, rfl, rfl, .inl (.inl k4), rfl, _, rfl, t4, _, 1, .int 1, rfl, rfl, .inl (.inl k4), rfl, _, rfl, t4, _, 2, .str "", rfl, rfl, .inl (.inl k4), rfl, _, rfl, t4, _, 3, x4, rfl, rfl, .inl (.inl k4), rfl, .str ls, .int 1, .str "", x4, rfl, .inr ⟨ls, rfl, hlsz, lo.ok, .inr ⟨1, rfl, by decide, .inr ⟨"", rfl, by decide, okW_of (fun c hc => by cases hc) (by decide), .inl ⟨bad4, fun H' g' => ⟨SW.exm, CW, rfl, rfl, SW.ec, SW.wd _ fun ax nax => ?_⟩⟩⟩⟩⟩⟩
        obtain ⟨f1, f2, f3, f4⟩ := fin H' CW ax "word" g' nax rfl
        exact ⟨F, _, _, rfl, rfl, f1, le4, ⟨_, rfl⟩, f2, f3, f4⟩
      | n + 4, hj, fin, le4 => simp at hj
    · rintro σ H15 ⟨⟨v15, rfl⟩, e15, L15, kF15⟩
      refine ⟨_, rfl, by show 4 ≤ sizeLine; decide, fun p np => ?_⟩
      have gp : Grows H15 (upd H15 p (.lst [.str "letters", .str "number", .str "word", .str "word"])) := Grows.new np
      have kp : upd H15 p (.lst [.str "letters", .str "number", .str "word", .str "word"]) p = some (.lst (lotsW.map V.str)) := upd_same
      refine ⟨dWords lotsW, dWords lotsW, dp_words (gp _ _ kF15), dp_words kp, shaped_strs (by decide +kernel), shaped_strs (by decide +kernel), ?_⟩
      rw [show PyData.eqv (dWords lotsW) (dWords lotsW) = true from by decide +kernel]
      exact q _
end
end SWL
set_option Elab.async false
set_option linter.all false
set_option maxRecDepth 100000
set_option maxHeartbeats 16000000
namespace SWL
open PySem PySem.Spec PyProof.Rows L2 LamX
/-! the facts of the top, gathered -/
theorem exm_by {K : PySem.W.Frag} {C : Value} {S : Addr} (h1 : PySem.W.subIn K (.ref S) (.type "BaseException") = some true) (h2 : PySem.W.isClsIn K S = true) (h3 : PySem.W.typeIn K (.ref S) = some (.type "type")) (h4 : PySem.W.subIn K C (.ref S) = some true) : PySem.W.exmOne K C (.ref S) = some true := by
  have e1 : (PySem.W.subIn K (.ref S) (.type "BaseException") == some true) = true := by rw [h1] <;> rfl
  have e2 : ((PySem.W.clsIn K S).isSome && PySem.W.typeIn K (.ref S) == some (.type "type")) = true := by
    have h5 : (PySem.W.clsIn K S).isSome = true := h2
    rw [h5, h3] <;> rfl
  show (if (PySem.W.subIn K (.ref S) (.type "BaseException") == some true) = true then (if ((PySem.W.clsIn K S).isSome && PySem.W.typeIn K (.ref S) == some (.type "type")) = true then PySem.W.subIn K C (.ref S) else none) else none) = some true
  rw [if_pos e1, if_pos e2]
  exact h4
theorem kit_self {K : PySem.W.Frag} {C : Addr} : PySem.W.kitOne K (.ref C) (.ref C) = some true := by
  unfold PySem.W.kitOne
  rw [if_pos (by simp)]
theorem kit_not {K : PySem.W.Frag} {C S : Addr} (h2 : PySem.W.isClsIn K S = true) (h3 : PySem.W.typeIn K (.ref S) = some (.type "type")) (h4 : PySem.W.subIn K (.ref C) (.ref S) = some false) (h : C ≠ S) : PySem.W.kitOne K (.ref C) (.ref S) = some false := by
  have e2 : ((PySem.W.clsIn K S).isSome && PySem.W.typeIn K (.ref S) == some (.type "type")) = true := by
    have h5 : (PySem.W.clsIn K S).isSome = true := h2
    rw [h5, h3] <;> rfl
  unfold PySem.W.kitOne
  rw [if_neg (by simpa using h)]
  show (if ((PySem.W.clsIn K S).isSome && PySem.W.typeIn K (.ref S) == some (.type "type")) = true then PySem.W.subIn K (.ref C) (.ref S) else none) = some false
  rw [if_pos e2]
  exact h4
theorem all_mk {l : PySem.W.OpenLaw} {w : World} {K : PySem.W.Frag} {h : Heap} {mg : Str → Option Value} {q : Program} {loose : List Str} {mean : ExcName → Option Value} {mb : Str → Option Value} {dL : DefRec} {fa : Addr} (X : K.In h) (G : h.Ns mainGlobals mg) (T : Top q loose mean mg mb h) (hfa : mg "law" = some (.ref fa))
    {f0 f1 f2 f3 f4 f5 f6 f7 f8 f9 f10 f11 f12 f13 f14 f15 f16 f17 f18 C fm0 fm1 Dk cL Pt CS CG CN CM CW : Addr} {oc0 dc0 pm0 ct0 kV0 cd0 oc1 dc1 pm1 ct1 kV1 cd1 oc2 dc2 pm2 ct2 kV2 cd2 oc3 dc3 pm3 ct3 kV3 cd3 oc4 dc4 pm4 ct4 cd4 oc5 dc5 pm5 ct5 kV5 cd5 oc6 dc6 pm6 ct6 kV6 cd6 oc7 dc7 pm7 ct7 kV7 cd7 oc8 dc8 pm8 ct8 kV8 cd8 oc9 dc9 pm9 ct9 kV9 cd9 oc10 dc10 pm10 ct10 kV10 cd10 oc11 dc11 pm11 ct11 kV11 cd11 oc12 dc12 pm12 ct12 kV12 cd12 oc13 dc13 pm13 ct13 kV13 cd13 oc14 dc14 pm14 ct14 kV14 cd14 oc15 dc15 pm15 ct15 kV15 cd15 oc16 dc16 pm16 ct16 kV16 cd16 oc17 dc17 pm17 ct17 kV17 cd17 oc18 dc18 pm18 ct18 kV18 ocm0 dcm0 pmm0 ctm0 kVm0 cdm0 ocm1 dcm1 pmm1 ctm1 kVm1 cdm1 ocT : Value} {od0 an0 od1 an1 od2 an2 od3 an3 od4 an4 od5 an5 od6 an6 od7 an7 od8 an8 od9 an9 od10 an10 od11 an11 od12 an12 od13 an13 od14 an14 od15 an15 od16 an16 od17 an17 od18 an18 odm0 anm0 odm1 anm1 odT : Option Addr} {sl0 sl1 sl2 sl3 sl4 sl5 sl6 sl7 sl8 sl9 sl10 sl11 sl12 sl13 sl14 sl15 sl16 sl17 sl18 slm0 slm1 slT : Array (Option Value)} {tS tL tT tM : Tok} {vsT : Array Value}
    (hrec : (recsOf q).find? (fun e => e.name == ("law" : Str)) = some dL)
    (a0 : PySem.W.nsIn K mainGlobals "is_number" = some (some (.ref f0)))
    (l0 : K.lookup f0 = some ⟨oc0, od0, .func (PySem.W.fnOf "is_number" "is_number" (defArgs sIsNum) (defBody sIsNum) (defScope sIsNum) .none kV0 dc0 pm0 an0 cd0 ct0), sl0⟩)
    (c0 : PySem.W.codeIn K cd0 "is_number" = true)
    (k0 : PySem.W.keepIn K (.ref f0) = true)
    (a1 : PySem.W.nsIn K mainGlobals "is_letters" = some (some (.ref f1)))
    (l1 : K.lookup f1 = some ⟨oc1, od1, .func (PySem.W.fnOf "is_letters" "is_letters" (defArgs sIsL) (defBody sIsL) (defScope sIsL) .none kV1 dc1 pm1 an1 cd1 ct1), sl1⟩)
    (c1 : PySem.W.codeIn K cd1 "is_letters" = true)
    (k1 : PySem.W.keepIn K (.ref f1) = true)
    (a2 : PySem.W.nsIn K mainGlobals "need_letters" = some (some (.ref f2)))
    (l2 : K.lookup f2 = some ⟨oc2, od2, .func (PySem.W.fnOf "need_letters" "need_letters" (defArgs sNeedL) (defBody sNeedL) (defScope sNeedL) .none kV2 dc2 pm2 an2 cd2 ct2), sl2⟩)
    (c2 : PySem.W.codeIn K cd2 "need_letters" = true)
    (k2 : PySem.W.keepIn K (.ref f2) = true)
    (a3 : PySem.W.nsIn K mainGlobals "is_word_to" = some (some (.ref f3)))
    (l3 : K.lookup f3 = some ⟨oc3, od3, .func (PySem.W.fnOf "is_word_to" "is_word_to" (defArgs sIsW) (defBody sIsW) (defScope sIsW) .none kV3 dc3 pm3 an3 cd3 ct3), sl3⟩)
    (c3 : PySem.W.codeIn K cd3 "is_word_to" = true)
    (k3 : PySem.W.keepIn K (.ref f3) = true)
    (a4 : PySem.W.nsIn K mainGlobals "need_word" = some (some (.ref f4)))
    (l4 : K.lookup f4 = some ⟨oc4, od4, .func (PySem.W.fnOf "need_word" "need_word" (defArgs sNeedW) (defBody sNeedW) (defScope sNeedW) .none (.ref Dk) dc4 pm4 an4 cd4 ct4), sl4⟩)
    (c4 : PySem.W.codeIn K cd4 "need_word" = true)
    (k4 : PySem.W.keepIn K (.ref f4) = true)
    (a5 : PySem.W.nsIn K mainGlobals "need_turns" = some (some (.ref f5)))
    (l5 : K.lookup f5 = some ⟨oc5, od5, .func (PySem.W.fnOf "need_turns" "need_turns" (defArgs sNeedT) (defBody sNeedT) (defScope sNeedT) .none kV5 dc5 pm5 an5 cd5 ct5), sl5⟩)
    (c5 : PySem.W.codeIn K cd5 "need_turns" = true)
    (k5 : PySem.W.keepIn K (.ref f5) = true)
    (a6 : PySem.W.nsIn K mainGlobals "turn_alike" = some (some (.ref f6)))
    (l6 : K.lookup f6 = some ⟨oc6, od6, .func (PySem.W.fnOf "turn_alike" "turn_alike" (defArgs sAlike) (defBody sAlike) (defScope sAlike) .none kV6 dc6 pm6 an6 cd6 ct6), sl6⟩)
    (c6 : PySem.W.codeIn K cd6 "turn_alike" = true)
    (k6 : PySem.W.keepIn K (.ref f6) = true)
    (a7 : PySem.W.nsIn K mainGlobals "_law_begun" = some (some (.ref f7)))
    (l7 : K.lookup f7 = some ⟨oc7, od7, .func (PySem.W.fnOf "_law_begun" "_law_begun" (defArgs sBegun) (defBody sBegun) (defScope sBegun) .none kV7 dc7 pm7 an7 cd7 ct7), sl7⟩)
    (c7 : PySem.W.codeIn K cd7 "_law_begun" = true)
    (k7 : PySem.W.keepIn K (.ref f7) = true)
    (a8 : PySem.W.nsIn K mainGlobals "_law_mixed" = some (some (.ref f8)))
    (l8 : K.lookup f8 = some ⟨oc8, od8, .func (PySem.W.fnOf "_law_mixed" "_law_mixed" (defArgs sMixed) (defBody sMixed) (defScope sMixed) .none kV8 dc8 pm8 an8 cd8 ct8), sl8⟩)
    (c8 : PySem.W.codeIn K cd8 "_law_mixed" = true)
    (k8 : PySem.W.keepIn K (.ref f8) = true)
    (a9 : PySem.W.nsIn K mainGlobals "_law_draw" = some (some (.ref f9)))
    (l9 : K.lookup f9 = some ⟨oc9, od9, .func (PySem.W.fnOf "_law_draw" "_law_draw" (defArgs sDraw) (defBody sDraw) (defScope sDraw) .none kV9 dc9 pm9 an9 cd9 ct9), sl9⟩)
    (c9 : PySem.W.codeIn K cd9 "_law_draw" = true)
    (k9 : PySem.W.keepIn K (.ref f9) = true)
    (a10 : PySem.W.nsIn K mainGlobals "_law_pick" = some (some (.ref f10)))
    (l10 : K.lookup f10 = some ⟨oc10, od10, .func (PySem.W.fnOf "_law_pick" "_law_pick" (defArgs sPick) (defBody sPick) (defScope sPick) .none kV10 dc10 pm10 an10 cd10 ct10), sl10⟩)
    (c10 : PySem.W.codeIn K cd10 "_law_pick" = true)
    (k10 : PySem.W.keepIn K (.ref f10) = true)
    (a11 : PySem.W.nsIn K mainGlobals "_law_plain" = some (some (.ref f11)))
    (l11 : K.lookup f11 = some ⟨oc11, od11, .func (PySem.W.fnOf "_law_plain" "_law_plain" (defArgs sPlain) (defBody sPlain) (defScope sPlain) .none kV11 dc11 pm11 an11 cd11 ct11), sl11⟩)
    (c11 : PySem.W.codeIn K cd11 "_law_plain" = true)
    (k11 : PySem.W.keepIn K (.ref f11) = true)
    (a12 : PySem.W.nsIn K mainGlobals "_law_is" = some (some (.ref f12)))
    (l12 : K.lookup f12 = some ⟨oc12, od12, .func (PySem.W.fnOf "_law_is" "_law_is" (defArgs sIs) (defBody sIs) (defScope sIs) .none kV12 dc12 pm12 an12 cd12 ct12), sl12⟩)
    (c12 : PySem.W.codeIn K cd12 "_law_is" = true)
    (k12 : PySem.W.keepIn K (.ref f12) = true)
    (a13 : PySem.W.nsIn K mainGlobals "_law_word" = some (some (.ref f13)))
    (l13 : K.lookup f13 = some ⟨oc13, od13, .func (PySem.W.fnOf "_law_word" "_law_word" (defArgs sWord) (defBody sWord) (defScope sWord) .none kV13 dc13 pm13 an13 cd13 ct13), sl13⟩)
    (c13 : PySem.W.codeIn K cd13 "_law_word" = true)
    (k13 : PySem.W.keepIn K (.ref f13) = true)
    (a14 : PySem.W.nsIn K mainGlobals "_law_some_word" = some (some (.ref f14)))
    (l14 : K.lookup f14 = some ⟨oc14, od14, .func (PySem.W.fnOf "_law_some_word" "_law_some_word" (defArgs sSomeW) (defBody sSomeW) (defScope sSomeW) .none kV14 dc14 pm14 an14 cd14 ct14), sl14⟩)
    (c14 : PySem.W.codeIn K cd14 "_law_some_word" = true)
    (k14 : PySem.W.keepIn K (.ref f14) = true)
    (a15 : PySem.W.nsIn K mainGlobals "_law_key" = some (some (.ref f15)))
    (l15 : K.lookup f15 = some ⟨oc15, od15, .func (PySem.W.fnOf "_law_key" "_law_key" (defArgs sKey) (defBody sKey) (defScope sKey) .none kV15 dc15 pm15 an15 cd15 ct15), sl15⟩)
    (c15 : PySem.W.codeIn K cd15 "_law_key" = true)
    (k15 : PySem.W.keepIn K (.ref f15) = true)
    (a16 : PySem.W.nsIn K mainGlobals "_law_some_letters" = some (some (.ref f16)))
    (l16 : K.lookup f16 = some ⟨oc16, od16, .func (PySem.W.fnOf "_law_some_letters" "_law_some_letters" (defArgs sSomeL) (defBody sSomeL) (defScope sSomeL) .none kV16 dc16 pm16 an16 cd16 ct16), sl16⟩)
    (c16 : PySem.W.codeIn K cd16 "_law_some_letters" = true)
    (k16 : PySem.W.keepIn K (.ref f16) = true)
    (a17 : PySem.W.nsIn K mainGlobals "_law_pair" = some (some (.ref f17)))
    (l17 : K.lookup f17 = some ⟨oc17, od17, .func (PySem.W.fnOf "_law_pair" "_law_pair" (defArgs sPair) (defBody sPair) (defScope sPair) .none kV17 dc17 pm17 an17 cd17 ct17), sl17⟩)
    (c17 : PySem.W.codeIn K cd17 "_law_pair" = true)
    (k17 : PySem.W.keepIn K (.ref f17) = true)
    (a18 : PySem.W.nsIn K mainGlobals "law" = some (some (.ref f18)))
    (l18 : K.lookup f18 = some ⟨oc18, od18, .func (PySem.W.fnOf "law" "law" (defArgs sLaw) (defBody sLaw) (defScope sLaw) .none kV18 dc18 pm18 an18 (.ref cL) ct18), sl18⟩)
    (c18 : PySem.W.codeIn K (.ref cL) "law" = true)
    (k18 : PySem.W.keepIn K (.ref f18) = true)
    (aC : PySem.W.nsIn K mainGlobals "TurnKeys" = some (some (.ref C)))
    (am0 : PySem.W.findIn K (.ref C) "__init__" = some (some (.ref fm0)))
    (im0 : PySem.W.isFn K (.ref fm0) = true)
    (lm0 : K.lookup fm0 = some ⟨ocm0, odm0, .func (PySem.W.fnOf "__init__" "TurnKeys.__init__" (defArgs sInit) (defBody sInit) (defScope sInit) .none kVm0 dcm0 pmm0 anm0 cdm0 ctm0), slm0⟩)
    (cm0 : PySem.W.codeIn K cdm0 "TurnKeys.__init__" = true)
    (km0 : PySem.W.keepIn K (.ref fm0) = true)
    (am1 : PySem.W.findIn K (.ref C) "number" = some (some (.ref fm1)))
    (im1 : PySem.W.isFn K (.ref fm1) = true)
    (lm1 : K.lookup fm1 = some ⟨ocm1, odm1, .func (PySem.W.fnOf "number" "TurnKeys.number" (defArgs sNumber) (defBody sNumber) (defScope sNumber) .none kVm1 dcm1 pmm1 anm1 cdm1 ctm1), slm1⟩)
    (cm1 : PySem.W.codeIn K cdm1 "TurnKeys.number" = true)
    (km1 : PySem.W.keepIn K (.ref fm1) = true)
    (pgC : PySem.W.plainGet K C Str.empty = true)
    (hdC : PySem.W.hasDictIn K C = true)
    (poC : PySem.W.plainOver K C = true)
    (saC : PySem.W.findIn K (.ref C) "__setattr__" = some (some (.builtin "object.__setattr__")))
    (mkC : PySem.W.makesIn K C = true)
    (kcC : PySem.W.keepIn K (.ref C) = true)
    (nWC : PySem.W.findIn K (.ref C) "words_met" = some none)
    (nLC : PySem.W.findIn K (.ref C) "lots_met" = some none)
    (kd : PySem.W.nsIn K Dk "most" = some (some (.int 20000 tM)))
    (zs : PySem.W.nsIn K mainGlobals "SMALL" = some (some (.str "abcdefghijklmnopqrstuvwxyz" tS)))
    (zl : PySem.W.nsIn K mainGlobals "MOST_LETTERS" = some (some (.int 4 tL)))
    (zt : PySem.W.nsIn K mainGlobals "MOST_N" = some (some (.int 4 tT)))
    (z_isinstance : PySem.W.nsIn K mainGlobals "isinstance" = some none)
    (z_str : PySem.W.nsIn K mainGlobals "str" = some none)
    (z_int : PySem.W.nsIn K mainGlobals "int" = some none)
    (z_list : PySem.W.nsIn K mainGlobals "list" = some none)
    (z_tuple : PySem.W.nsIn K mainGlobals "tuple" = some none)
    (z_dict : PySem.W.nsIn K mainGlobals "dict" = some none)
    (z_len : PySem.W.nsIn K mainGlobals "len" = some none)
    (z_all : PySem.W.nsIn K mainGlobals "all" = some none)
    (z_any : PySem.W.nsIn K mainGlobals "any" = some none)
    (z_zip : PySem.W.nsIn K mainGlobals "zip" = some none)
    (z_sorted : PySem.W.nsIn K mainGlobals "sorted" = some none)
    (z_abs : PySem.W.nsIn K mainGlobals "abs" = some none)
    (z_range : PySem.W.nsIn K mainGlobals "range" = some none)
    (z_min : PySem.W.nsIn K mainGlobals "min" = some none)
    (z_repr : PySem.W.nsIn K mainGlobals "repr" = some none)
    (z_bool : PySem.W.nsIn K mainGlobals "bool" = some none)
    (z_set : PySem.W.nsIn K mainGlobals "set" = some none)
    (lT : K.lookup cL = some ⟨ocT, odT, .fields vsT, slT⟩)
    (vT : (vsT[11]? : Option Value) = some (.ref Pt))
    (nT : K.lookup Pt = none)
    (aS : PySem.W.nsIn K mainGlobals "SwingError" = some (some (.ref CS)))
    (bS : PySem.W.subIn K (.ref CS) (.type "BaseException") = some true)
    (tS2 : PySem.W.typeIn K (.ref CS) = some (.type "type"))
    (iS : PySem.W.isClsIn K CS = true)
    (aG : PySem.W.nsIn K mainGlobals "TooGreat" = some (some (.ref CG)))
    (tG : PySem.W.typeIn K (.ref CG) = some (.type "type"))
    (iG : PySem.W.isClsIn K CG = true)
    (aN : PySem.W.nsIn K mainGlobals "NoLetters" = some (some (.ref CN)))
    (xN : PySem.W.excIn K CN veB "ValueError.__new__" = true)
    (kkN : PySem.W.keepIn K (.ref CN) = true)
    (bN : PySem.W.subIn K (.ref CN) (.type "BaseException") = some true)
    (tN : PySem.W.typeIn K (.ref CN) = some (.type "type"))
    (sN : PySem.W.subIn K (.ref CN) (.ref CS) = some true)
    (iN : PySem.W.isClsIn K CN = true)
    (gN : PySem.W.findIn K (.ref CN) "__getattribute__" = some (some (.builtin "BaseException.__getattribute__")))
    (hN : PySem.W.findIn K (.ref CN) "__getattr__" = some none)
    (dN : PySem.W.hasDictIn K CN = true)
    (ccN : PySem.W.findIn K (.ref CN) "__class__" = some (some (.builtin "object.__class__")))
    (moN : PySem.W.mroIn K CN (.type "object") = some true)
    (aM : PySem.W.nsIn K mainGlobals "NoNumber" = some (some (.ref CM)))
    (xM : PySem.W.excIn K CM veB "ValueError.__new__" = true)
    (kkM : PySem.W.keepIn K (.ref CM) = true)
    (bM : PySem.W.subIn K (.ref CM) (.type "BaseException") = some true)
    (tM : PySem.W.typeIn K (.ref CM) = some (.type "type"))
    (sM : PySem.W.subIn K (.ref CM) (.ref CS) = some true)
    (iM : PySem.W.isClsIn K CM = true)
    (gM : PySem.W.findIn K (.ref CM) "__getattribute__" = some (some (.builtin "BaseException.__getattribute__")))
    (hM : PySem.W.findIn K (.ref CM) "__getattr__" = some none)
    (dM : PySem.W.hasDictIn K CM = true)
    (ccM : PySem.W.findIn K (.ref CM) "__class__" = some (some (.builtin "object.__class__")))
    (moM : PySem.W.mroIn K CM (.type "object") = some true)
    (aW : PySem.W.nsIn K mainGlobals "NoWord" = some (some (.ref CW)))
    (xW : PySem.W.excIn K CW veB "ValueError.__new__" = true)
    (kkW : PySem.W.keepIn K (.ref CW) = true)
    (bW : PySem.W.subIn K (.ref CW) (.type "BaseException") = some true)
    (tW : PySem.W.typeIn K (.ref CW) = some (.type "type"))
    (sW : PySem.W.subIn K (.ref CW) (.ref CS) = some true)
    (iW : PySem.W.isClsIn K CW = true)
    (gW : PySem.W.findIn K (.ref CW) "__getattribute__" = some (some (.builtin "BaseException.__getattribute__")))
    (hW : PySem.W.findIn K (.ref CW) "__getattr__" = some none)
    (dW : PySem.W.hasDictIn K CW = true)
    (ccW : PySem.W.findIn K (.ref CW) "__class__" = some (some (.builtin "object.__class__")))
    (moW : PySem.W.mroIn K CW (.type "object") = some true)
    (sp0 : PySem.W.specialIn K (.builtin "object.__class__") "__get__" = some (some (.builtin "getset_descriptor.__get__")))
    (tk0 : PySem.W.takesIn K (.builtin "object.__class__") = some true)
    (uNG : PySem.W.subIn K (.ref CN) (.ref CG) = some false)
    (vNG : CN ≠ CG)
    (uMG : PySem.W.subIn K (.ref CM) (.ref CG) = some false)
    (vMG : CM ≠ CG)
    (uWG : PySem.W.subIn K (.ref CW) (.ref CG) = some false)
    (vWG : CW ≠ CG)
    (uMN : PySem.W.subIn K (.ref CM) (.ref CN) = some false)
    (vMN : CM ≠ CN)
    (uWN : PySem.W.subIn K (.ref CW) (.ref CN) = some false)
    (vWN : CW ≠ CN)
    (uMW : PySem.W.subIn K (.ref CM) (.ref CW) = some false)
    (vMW : CM ≠ CW)
    : LawG l w K 66 63 "script" mg fa h := by
  have e := hfa.symm.trans (PySem.W.mg_of X G a18)
  cases e
  have B : Blt mg := ⟨PySem.W.mg_none_of X G z_isinstance, PySem.W.mg_none_of X G z_str, PySem.W.mg_none_of X G z_int, PySem.W.mg_none_of X G z_list, PySem.W.mg_none_of X G z_tuple, PySem.W.mg_none_of X G z_dict, PySem.W.mg_none_of X G z_len, PySem.W.mg_none_of X G z_all, PySem.W.mg_none_of X G z_any, PySem.W.mg_none_of X G z_zip, PySem.W.mg_none_of X G z_sorted, PySem.W.mg_none_of X G z_abs, PySem.W.mg_none_of X G z_range, PySem.W.mg_none_of X G z_min, PySem.W.mg_none_of X G z_repr, PySem.W.mg_none_of X G z_bool, PySem.W.mg_none_of X G z_set, ⟨_, PySem.W.mg_of X G zs⟩, ⟨_, PySem.W.mg_of X G zl⟩, ⟨_, PySem.W.mg_of X G zt⟩⟩
  have kNG := kit_not iG tG uNG vNG
  have kMG := kit_not iG tG uMG vMG
  have kWG := kit_not iG tG uWG vWG
  have kMN := kit_not iN tN uMN vMN
  have kWN := kit_not iN tN uWN vWN
  have kMW := kit_not iW tW uMW vMW
  have mgN := PySem.W.mg_of X G aN
  have eN := exm_by bS iS tS2 sN
  have EN : ErrC K mg "NoLetters" CN CS := ⟨mgN, xN, kkN, bN, tN, eN⟩
  have SN : SeenW K CN CS CG CN CW CM "letters" := ⟨eN, ⟨gN, hN, bN, dN, ccN, sp0, tk0, moN⟩, fun R r => ⟨kNG, .inl ⟨kit_self, r⟩⟩⟩
  have mgM := PySem.W.mg_of X G aM
  have eM := exm_by bS iS tS2 sM
  have EM : ErrC K mg "NoNumber" CM CS := ⟨mgM, xM, kkM, bM, tM, eM⟩
  have SM : SeenW K CM CS CG CN CW CM "number" := ⟨eM, ⟨gM, hM, bM, dM, ccM, sp0, tk0, moM⟩, fun R r => ⟨kMG, .inr ⟨kMN, .inr ⟨kMW, kit_self, r⟩⟩⟩⟩
  have mgW := PySem.W.mg_of X G aW
  have eW := exm_by bS iS tS2 sW
  have EW : ErrC K mg "NoWord" CW CS := ⟨mgW, xW, kkW, bW, tW, eW⟩
  have SW : SeenW K CW CS CG CN CW CM "word" := ⟨eW, ⟨gW, hW, bW, dW, ccW, sp0, tk0, moW⟩, fun R r => ⟨kWG, .inr ⟨kWN, .inl ⟨kit_self, r⟩⟩⟩⟩
  have mgG := PySem.W.mg_of X G aG
  have F0 := fun_mk (st := sIsNum) l0 c0 k0
  have D0 : Def mg K "is_number" f0 _ ["thing", "least", "most"] := ⟨PySem.W.mg_of X G a0, k0, F0.binds (ps := ["thing", "least", "most"]) fun _ _ _ _ _ _ us hl => match us, hl with | [_, _, _], _ => rfl⟩
  have F1 := fun_mk (st := sIsL) l1 c1 k1
  have D1 : Def mg K "is_letters" f1 _ ["thing"] := ⟨PySem.W.mg_of X G a1, k1, F1.binds (ps := ["thing"]) fun _ _ _ _ _ _ us hl => match us, hl with | [_], _ => rfl⟩
  have F2 := fun_mk (st := sNeedL) l2 c2 k2
  have D2 : Def mg K "need_letters" f2 _ ["thing"] := ⟨PySem.W.mg_of X G a2, k2, F2.binds (ps := ["thing"]) fun _ _ _ _ _ _ us hl => match us, hl with | [_], _ => rfl⟩
  have F3 := fun_mk (st := sIsW) l3 c3 k3
  have D3 : Def mg K "is_word_to" f3 _ ["letters", "thing", "most"] := ⟨PySem.W.mg_of X G a3, k3, F3.binds (ps := ["letters", "thing", "most"]) fun _ _ _ _ _ _ us hl => match us, hl with | [_, _, _], _ => rfl⟩
  have F5 := fun_mk (st := sNeedT) l5 c5 k5
  have D5 : Def mg K "need_turns" f5 _ ["letters", "n"] := ⟨PySem.W.mg_of X G a5, k5, F5.binds (ps := ["letters", "n"]) fun _ _ _ _ _ _ us hl => match us, hl with | [_, _], _ => rfl⟩
  have F6 := fun_mk (st := sAlike) l6 c6 k6
  have D6 : Def mg K "turn_alike" f6 _ ["letters", "n", "one", "other"] := ⟨PySem.W.mg_of X G a6, k6, F6.binds (ps := ["letters", "n", "one", "other"]) fun _ _ _ _ _ _ us hl => match us, hl with | [_, _, _, _], _ => rfl⟩
  have F7 := fun_mk (st := sBegun) l7 c7 k7
  have D7 : Def mg K "_law_begun" f7 _ ["script"] := ⟨PySem.W.mg_of X G a7, k7, F7.binds (ps := ["script"]) fun _ _ _ _ _ _ us hl => match us, hl with | [_], _ => rfl⟩
  have F8 := fun_mk (st := sMixed) l8 c8 k8
  have D8 : Def mg K "_law_mixed" f8 _ ["state"] := ⟨PySem.W.mg_of X G a8, k8, F8.binds (ps := ["state"]) fun _ _ _ _ _ _ us hl => match us, hl with | [_], _ => rfl⟩
  have F9 := fun_mk (st := sDraw) l9 c9 k9
  have D9 : Def mg K "_law_draw" f9 _ ["state", "room"] := ⟨PySem.W.mg_of X G a9, k9, F9.binds (ps := ["state", "room"]) fun _ _ _ _ _ _ us hl => match us, hl with | [_, _], _ => rfl⟩
  have F10 := fun_mk (st := sPick) l10 c10 k10
  have D10 : Def mg K "_law_pick" f10 _ ["state", "some"] := ⟨PySem.W.mg_of X G a10, k10, F10.binds (ps := ["state", "some"]) fun _ _ _ _ _ _ us hl => match us, hl with | [_, _], _ => rfl⟩
  have F11 := fun_mk (st := sPlain) l11 c11 k11
  have D11 : Def mg K "_law_plain" f11 _ ["value"] := ⟨PySem.W.mg_of X G a11, k11, F11.binds (ps := ["value"]) fun _ _ _ _ _ _ us hl => match us, hl with | [_], _ => rfl⟩
  have F12 := fun_mk (st := sIs) l12 c12 k12
  have D12 : Def mg K "_law_is" f12 _ ["found", "due"] := ⟨PySem.W.mg_of X G a12, k12, F12.binds (ps := ["found", "due"]) fun _ _ _ _ _ _ us hl => match us, hl with | [_, _], _ => rfl⟩
  have F13 := fun_mk (st := sWord) l13 c13 k13
  have D13 : Def mg K "_law_word" f13 _ ["action"] := ⟨PySem.W.mg_of X G a13, k13, F13.binds (ps := ["action"]) fun _ _ _ _ _ _ us hl => match us, hl with | [_], _ => rfl⟩
  have F14 := fun_mk (st := sSomeW) l14 c14 k14
  have D14 : Def mg K "_law_some_word" f14 _ ["state", "letters", "most"] := ⟨PySem.W.mg_of X G a14, k14, F14.binds (ps := ["state", "letters", "most"]) fun _ _ _ _ _ _ us hl => match us, hl with | [_, _, _], _ => rfl⟩
  have F15 := fun_mk (st := sKey) l15 c15 k15
  have D15 : Def mg K "_law_key" f15 _ ["n", "word"] := ⟨PySem.W.mg_of X G a15, k15, F15.binds (ps := ["n", "word"]) fun _ _ _ _ _ _ us hl => match us, hl with | [_, _], _ => rfl⟩
  have F16 := fun_mk (st := sSomeL) l16 c16 k16
  have D16 : Def mg K "_law_some_letters" f16 _ ["state"] := ⟨PySem.W.mg_of X G a16, k16, F16.binds (ps := ["state"]) fun _ _ _ _ _ _ us hl => match us, hl with | [_], _ => rfl⟩
  have F17 := fun_mk (st := sPair) l17 c17 k17
  have D17 : Def mg K "_law_pair" f17 _ ["state", "letters"] := ⟨PySem.W.mg_of X G a17, k17, F17.binds (ps := ["state", "letters"]) fun _ _ _ _ _ _ us hl => match us, hl with | [_, _], _ => rfl⟩
  have Fm0 := fun_mk (st := sInit) lm0 cm0 km0
  have bm0 := Fm0.binds (ps := ["self"]) fun _ _ _ _ _ _ us hl => match us, hl with | [_], _ => rfl
  have Fm1 := fun_mk (st := sNumber) lm1 cm1 km1
  have bm1 := Fm1.binds (ps := ["self", "n", "word"]) fun _ _ _ _ _ _ us hl => match us, hl with | [_, _, _], _ => rfl
  have TK : TkC K mg C fm1 := ⟨⟨pgC, hdC, poC, saC⟩, nWC, nLC, ⟨am1, im1, km1⟩⟩
  have M : Mk K C fm0 := ⟨mkC, am0, im0, kcC⟩
  have F4 : FunD K "need_word" "need_word" (defArgs sNeedW) (defBody sNeedW) (defScope sNeedW) [] [("most", .int 20000)] f4 _ := ⟨⟨_, _, _, _, _, _, _, _, _, _, rfl, l4, c4, .inl ⟨rfl, rfl⟩, .inr ⟨Dk, rfl, fun q hq => by cases List.mem_singleton.mp hq; exact ⟨_, kd, ⟨_, rfl⟩⟩⟩⟩, k4⟩
  have D4 : DefW mg K "need_word" f4 _ ["letters", "thing", "most"] := ⟨PySem.W.mg_of X G a4, k4, FunD.binds0 (ps := ["letters", "thing", "most"]) F4 2 (by simp) rfl fun _ _ _ _ _ _ us ks hl h2 => match us, ks, hl, h2 with | [_, _], [_], _, _ => ⟨_, _, _, _, _, _, rfl, rfl, rfl⟩⟩
  have KB : KBinds K (PySem.W.fnOf "turn_alike" "turn_alike" (defArgs sAlike) (defBody sAlike) (defScope sAlike) .none kV6 dc6 pm6 an6 cd6 ct6) ["letters", "n", "one", "other"] ["other", "one", "n", "letters"] (fun us ws => us ++ ws.reverse) (fun us ws => us ++ ws.reverse) := by
    refine ⟨fun s us ws _ hl => ?_, fun r1 r2 => r1.append (vals_rev r2)⟩
    rw [List.length_append, List.length_reverse] at hl
    have hl2 : us.length + ws.length = 4 := hl
    rcases us with _ | ⟨u1, _ | ⟨u2, _ | ⟨u3, _ | ⟨u4, _ | ⟨u5, us⟩⟩⟩⟩⟩ <;> rcases ws with _ | ⟨w1, _ | ⟨w2, _ | ⟨w3, _ | ⟨w4, _ | ⟨w5, ws⟩⟩⟩⟩⟩ <;> first | (exfalso; simp only [List.length_cons, List.length_nil] at hl2; omega) | exact .of_eq rfl
  have CK : WordK K mg f13 := ⟨D13.g, D13.k, _, _, _, _, _, _, _, _, _, l13, c13, D13.b⟩
  have ht : PySem.W.tabIn K "law" = some (cL, Pt) := by
    unfold PySem.W.tabIn
    simp only [a18, l18, PySem.W.fnOf, lT, vT]
  obtain ⟨hc, hp⟩ := PySem.W.tab_of T X hrec ht
  refine ⟨PySem.W.fnOf "law" "law" (defArgs sLaw) (defBody sLaw) (defScope sLaw) .none kV18 dc18 pm18 an18 (.ref cL) ct18, [(cL, Pt)], spLaw K Pt, fun p hpm => ?_, fun p hpm => ?_, fun p hpm => ?_, fun s u => .of_eq rfl, fun H a ns hn _ ht hs => ?_, fun base KX NG TB => ?_⟩
  · cases List.mem_singleton.mp hpm
    exact hp
  · cases List.mem_singleton.mp hpm
    exact nT
  · cases List.mem_singleton.mp hpm
    exact hc
  · exact ⟨a, ns, rfl, hs, hn, ht (cL, Pt) List.mem_cons_self, fun _ => rfl⟩
  · have G1 := ok_isL (P := l.prog) (w := w) (base := base) F1 B
    have G2 := ok_needL (P := l.prog) (w := w) (base := base) F2 G1 D1 EN
    have G3 := ok_isW (P := l.prog) (w := w) (base := base) F3 B 
    have G4 := ok_needW (P := l.prog) (w := w) (base := base) F4 G3 D3 EW
    have G0 := ok_isNum (P := l.prog) (w := w) (base := base) F0 B 
    have G5 := ok_needT (P := l.prog) (w := w) (base := base) F5 B EM G2 D2 G0 D0
    have GI := ok_init (P := l.prog) (w := w) (base := base) Fm0 TK
    have GN := ok_number (P := l.prog) (w := w) (base := base) Fm1 B TK bm1 61
    have G6 := ok_alike (P := l.prog) (w := w) (base := base) F6 TK M (PySem.W.mg_of X G aC) GI bm0 GN bm1 G5 D5 G4 D4
    have G7 := ok_begun (P := l.prog) (w := w) (base := base) F7 B 
    have G8 := ok_mixed (P := l.prog) (w := w) (base := base) F8 B 
    have G9 := ok_draw (P := l.prog) (w := w) (base := base) F9 B G8 D8
    have G10 := ok_pick (P := l.prog) (w := w) (base := base) F10 B G9 D9
    have GS := ok_pickS (P := l.prog) (w := w) (base := base) F10 B G9 D9
    have G11 := ok_plain (P := l.prog) (w := w) (base := base) F11 B D11 1
    have G12 := ok_isV (P := l.prog) (w := w) (base := base) F12 B G11 D11
    have G16 := ok_someL (P := l.prog) (w := w) (base := base) F16 G10 D10
    have G14 := ok_someW (P := l.prog) (w := w) (base := base) F14 B G9 D9 GS D10
    have G15 := ok_key (P := l.prog) (w := w) (base := base) F15 B D15 60
    have G17 := ok_pair (P := l.prog) (w := w) (base := base) F17 B G9 D9 GS D10 G14 D14
    exact ok_law l18 c18 B ⟨⟨_, _, D7, G7⟩, ⟨_, _, D9, G9⟩, ⟨_, _, D10, GS⟩, ⟨_, _, D10, G10⟩, ⟨_, _, D16, G16⟩, ⟨_, _, D17, G17⟩, ⟨_, _, D14, G14⟩, ⟨_, _, D15, G15⟩, ⟨_, _, D12, G12⟩, ⟨_, _, D6, KB, G6⟩⟩ CK (TB (cL, Pt) List.mem_cons_self) mgN mgM mgW mgG (PySem.W.mg_of X G aS) SN SM SW
end SWL
set_option Elab.async false
set_option linter.all false
set_option maxRecDepth 100000
open PySem PySem.W PyProof.Rows
set_option maxHeartbeats 0 in
theorem PySem.Challenge.cw_swinglogic_k36_whole_words_alike_by_turn_holds : PySem.Challenge.rw_swinglogic_k36_whole_words_alike_by_turn.Holds := by
  w_on; o_law; k_head; (case hw => w_witness2)
  k_fill
  refine SWL.walk_ofG (l := PySem.Challenge.rw_swinglogic_k36_whole_words_alike_by_turn) (n := 63) (k := 66) (x := "script") rfl (by decide) rfl ⟨rfl, by decide, by decide⟩ (fun w h Y => PySem.W.km_in_of Y) ?F
  case F =>
    intro w mg fa h loose mean mb T Y KX G hmg
    refine' SWL.all_mk KX G T hmg ?hrec ?a0 ?l0 ?c0 ?k0 ?a1 ?l1 ?c1 ?k1 ?a2 ?l2 ?c2 ?k2 ?a3 ?l3 ?c3 ?k3 ?a4 ?l4 ?c4 ?k4 ?a5 ?l5 ?c5 ?k5 ?a6 ?l6 ?c6 ?k6 ?a7 ?l7 ?c7 ?k7 ?a8 ?l8 ?c8 ?k8 ?a9 ?l9 ?c9 ?k9 ?a10 ?l10 ?c10 ?k10 ?a11 ?l11 ?c11 ?k11 ?a12 ?l12 ?c12 ?k12 ?a13 ?l13 ?c13 ?k13 ?a14 ?l14 ?c14 ?k14 ?a15 ?l15 ?c15 ?k15 ?a16 ?l16 ?c16 ?k16 ?a17 ?l17 ?c17 ?k17 ?a18 ?l18 ?c18 ?k18 ?aC ?am0 ?im0 ?lm0 ?cm0 ?km0 ?am1 ?im1 ?lm1 ?cm1 ?km1 ?pgC ?hdC ?poC ?saC ?mkC ?kcC ?nWC ?nLC ?kd ?zs ?zl ?zt ?z_isinstance ?z_str ?z_int ?z_list ?z_tuple ?z_dict ?z_len ?z_all ?z_any ?z_zip ?z_sorted ?z_abs ?z_range ?z_min ?z_repr ?z_bool ?z_set ?lT ?vT ?nT ?aS ?bS ?tS2 ?iS ?aG ?tG ?iG ?aN ?xN ?kkN ?bN ?tN ?sN ?iN ?gN ?hN ?dN ?ccN ?moN ?aM ?xM ?kkM ?bM ?tM ?sM ?iM ?gM ?hM ?dM ?ccM ?moM ?aW ?xW ?kkW ?bW ?tW ?sW ?iW ?gW ?hW ?dW ?ccW ?moW ?sp0 ?tk0 ?uNG ?vNG ?uMG ?vMG ?uWG ?vWG ?uMN ?vMN ?uWN ?vWN ?uMW ?vMW
    (case hrec => first | rfl | kernel_rfl)
    (case a0 => k_is)
    (case l0 => k_is)
    (case c0 => k_is)
    (case k0 => k_is)
    (case a1 => k_is)
    (case l1 => k_is)
    (case c1 => k_is)
    (case k1 => k_is)
    (case a2 => k_is)
    (case l2 => k_is)
    (case c2 => k_is)
    (case k2 => k_is)
    (case a3 => k_is)
    (case l3 => k_is)
    (case c3 => k_is)
    (case k3 => k_is)
    (case a4 => k_is)
    (case l4 => k_is)
    (case c4 => k_is)
    (case k4 => k_is)
    (case a5 => k_is)
    (case l5 => k_is)
    (case c5 => k_is)
    (case k5 => k_is)
    (case a6 => k_is)
    (case l6 => k_is)
    (case c6 => k_is)
    (case k6 => k_is)
    (case a7 => k_is)
    (case l7 => k_is)
    (case c7 => k_is)
    (case k7 => k_is)
    (case a8 => k_is)
    (case l8 => k_is)
    (case c8 => k_is)
    (case k8 => k_is)
    (case a9 => k_is)
    (case l9 => k_is)
    (case c9 => k_is)
    (case k9 => k_is)
    (case a10 => k_is)
    (case l10 => k_is)
    (case c10 => k_is)
    (case k10 => k_is)
    (case a11 => k_is)
    (case l11 => k_is)
    (case c11 => k_is)
    (case k11 => k_is)
    (case a12 => k_is)
    (case l12 => k_is)
    (case c12 => k_is)
    (case k12 => k_is)
    (case a13 => k_is)
    (case l13 => k_is)
    (case c13 => k_is)
    (case k13 => k_is)
    (case a14 => k_is)
    (case l14 => k_is)
    (case c14 => k_is)
    (case k14 => k_is)
    (case a15 => k_is)
    (case l15 => k_is)
    (case c15 => k_is)
    (case k15 => k_is)
    (case a16 => k_is)
    (case l16 => k_is)
    (case c16 => k_is)
    (case k16 => k_is)
    (case a17 => k_is)
    (case l17 => k_is)
    (case c17 => k_is)
    (case k17 => k_is)
    (case a18 => k_is)
    (case l18 => k_is)
    (case c18 => k_is)
    (case k18 => k_is)
    (case aC => k_is)
    (case am0 => k_is)
    (case im0 => k_is)
    (case lm0 => k_is)
    (case cm0 => k_is)
    (case km0 => k_is)
    (case am1 => k_is)
    (case im1 => k_is)
    (case lm1 => k_is)
    (case cm1 => k_is)
    (case km1 => k_is)
    (case pgC => k_is)
    (case hdC => k_is)
    (case poC => k_is)
    (case saC => k_is)
    (case mkC => k_is)
    (case kcC => k_is)
    (case nWC => k_is)
    (case nLC => k_is)
    (case kd => k_is)
    (case zs => k_is)
    (case zl => k_is)
    (case zt => k_is)
    (case z_isinstance => k_is)
    (case z_str => k_is)
    (case z_int => k_is)
    (case z_list => k_is)
    (case z_tuple => k_is)
    (case z_dict => k_is)
    (case z_len => k_is)
    (case z_all => k_is)
    (case z_any => k_is)
    (case z_zip => k_is)
    (case z_sorted => k_is)
    (case z_abs => k_is)
    (case z_range => k_is)
    (case z_min => k_is)
    (case z_repr => k_is)
    (case z_bool => k_is)
    (case z_set => k_is)
    (case lT => k_is)
    (case vT => first | rfl | k_is)
    (case nT => first | kernel_rfl | rfl)
    (case aS => k_is)
    (case bS => k_is)
    (case tS2 => k_is)
    (case iS => k_is)
    (case aG => k_is)
    (case tG => k_is)
    (case iG => k_is)
    (case aN => k_is)
    (case xN => k_exc)
    (case kkN => k_is)
    (case bN => k_is)
    (case tN => k_is)
    (case sN => k_is)
    (case iN => k_is)
    (case gN => k_is)
    (case hN => k_is)
    (case dN => k_is)
    (case ccN => k_is)
    (case moN => k_is)
    (case aM => k_is)
    (case xM => k_exc)
    (case kkM => k_is)
    (case bM => k_is)
    (case tM => k_is)
    (case sM => k_is)
    (case iM => k_is)
    (case gM => k_is)
    (case hM => k_is)
    (case dM => k_is)
    (case ccM => k_is)
    (case moM => k_is)
    (case aW => k_is)
    (case xW => k_exc)
    (case kkW => k_is)
    (case bW => k_is)
    (case tW => k_is)
    (case sW => k_is)
    (case iW => k_is)
    (case gW => k_is)
    (case hW => k_is)
    (case dW => k_is)
    (case ccW => k_is)
    (case moW => k_is)
    (case sp0 => k_is)
    (case tk0 => k_is)
    (case uNG => k_is)
    (case vNG => decide)
    (case uMG => k_is)
    (case vMG => decide)
    (case uWG => k_is)
    (case vWG => decide)
    (case uMN => k_is)
    (case vMN => decide)
    (case uWN => k_is)
    (case vWN => decide)
    (case uMW => k_is)
    (case vMW => decide)
