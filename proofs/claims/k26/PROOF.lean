import PyProof.Rows.All
import Wide.All
import OpenK.AllK
import Wide.FinOn
import HandS.ForMost
import HandS.Exc
import HandS.ExcOwn
import HandS.ExcIs
import HandS.IsInst
import HandS.Lambda
import HandS.EndTab
import HandS.SortKw
import HandS.Defaults
import HandS.TupLe
import HandS.WordsExc
import HandS.Wide
import KE.SortKeyHeap
import KE.KDictKeyed
import KE.KDictSum
import KE.GoesNew
import PyProof.ListStr
import HandS.Walk
import HandS.Steps
import HandS.Style
import KE.GoesEnum
import KE.GoesMore
import PyProof.StrBlock2
import PyProof.CallFns
import PySem.Challenge.RW_swinglogic_k26_whole_ideals_within_ideal
import HandS.TupAny
import HandS.TupMul
set_option Elab.async false
set_option linter.all false
set_option maxRecDepth 100000
set_option maxHeartbeats 4000000
namespace SWL
open PySem PySem.Spec PyProof.Rows L2
/-! repr of data, list of a text -/
/-- what repr asks of data: the around has no guard in hand -/
def askRepr (K : PySem.W.Frag) : List V → Hp → VK → Prop := fun xs H Q =>
  ∃ (a : Addr) (d : PyData), xs = [.ref a] ∧ Dp K H (.ref a) d ∧ d.showable = true ∧ d.hasDict = false ∧ d.depth ≤ 50 ∧ d.shown.length ≤ sizeLine ∧ Q (.str d.shown) H
section
variable {X : Cx}
theorem cr_repr (gd : X.A.guards = some []) (hu : X.A.units + 64 < cLine) : CallR X (.builtin "repr") (askRepr X.K) := by
  intro pins s σ H xs us Q I rel q
  obtain ⟨a, d, rfl, hd, hs, hn, hdep, hlen, q⟩ := q
  obtain ⟨u, rfl, ru⟩ := vals1 rel
  obtain ⟨as, rd⟩ := Dp.reads I d _ _ hd ru
  cases ru
  refine repr_of_reads' rd hs (PyData.noDict_hsm hn) gd (by omega) (fun _ _ e => e) (fun h' u' tk hk => ?_) hlen
  exact ⟨.str d.shown, H, I.kept hk, ⟨u', rfl⟩, q⟩
def signsV (z : Str) : List V := z.cps.toList.map fun c => V.str ⟨#[c]⟩
theorem signs_vals (z : Str) : ∀ (l : List Nat) (vs : List Value), vs.length = l.length → (∀ (i : Nat) (v : Value), vs[i]? = some v → ∃ c t, l[i]? = some c ∧ v = .str ⟨#[c]⟩ t) → Vals (l.map fun c => V.str ⟨#[c]⟩) vs
  | [], [], _, _ => .nil
  | [], _ :: _, h, _ => by simp at h
  | _ :: _, [], h, _ => by simp at h
  | c :: l, v :: vs, h, hv => by
    obtain ⟨c', t, h1, h2⟩ := hv 0 v rfl
    have e : c = c' := Option.some.inj h1
    subst e
    exact .cons ⟨t, h2⟩ (signs_vals z l vs (by simpa using h) fun i w hw => hv (i + 1) w hw)
theorem cr_listStr (hc : X.calm = true) : CallR X (.type "list") (fun xs H Q => ∃ z, xs = [.str z] ∧ z.length ≤ sizeLine ∧ ∀ p, H p = none → Q (.ref p) (upd H p (.lst (signsV z)))) := by
  intro pins s σ H xs us Q I rel q
  obtain ⟨z, rfl, hz, q⟩ := q
  obtain ⟨u, rfl, t, rfl⟩ := vals1 rel
  refine call_list_str (I.ok.hd hc) z t (fun h' tk acc' c' hk hget hit => ?_) hz
  have hlen : acc'.toList.length = z.cps.toList.length := by
    rw [Array.length_toList, Array.length_toList]
    exact hit.1
  have hv : Vals (signsV z) acc'.toList := by
    refine signs_vals z _ _ hlen fun i v hv => ?_
    obtain ⟨c, t', h1, h2⟩ := hit.2 i v (by rw [← Array.getElem?_toList]; exact hv)
    exact ⟨c, t', by rw [Array.getElem?_toList]; exact h1, h2⟩
  refine ⟨.ref s.heap.objs.size, _, I.laid (t' := tk) hk (Nat.le_refl _) (show ObjOk X.prog X.w _ h' _ (.lst (signsV z)) from ⟨?_, acc'.toList, c', hv, ?_⟩), rfl, q _ (I.hok.fresh (Nat.le_refl _))⟩
  · unfold signsV
    rw [List.length_map, Array.length_toList]
    exact hz
  · rw [Array.toArray_toList]
    exact hget
end
end SWL
set_option Elab.async false
set_option linter.all false
set_option maxRecDepth 100000
set_option maxHeartbeats 4000000
namespace SWL
open PySem PySem.Spec PyProof.Rows L2
/-! zip of two texts -/
/-- the pairs of two texts' signs, a new tuple each -/
def PairsS (x y : Str) : It :=
  ⟨fun i _ => i < min x.cps.size y.cps.size,
    fun i H v H' => ∃ (T : Addr) (c d : Nat), v = .ref T ∧ H T = none ∧ H' = upd H T (.tup [.str ⟨#[c]⟩, .str ⟨#[d]⟩]) ∧ x.cps[i]? = some c ∧ y.cps[i]? = some d,
    fun i _ => i = min x.cps.size y.cps.size⟩
theorem turnZipS {P : Program} {w : World} {K : PySem.W.Frag} {elts : List Expr} {kk : Nat} {tp : Pos} {N : Addr} (x y : Str) (t u : Tok) :
    Turn P w K (.Tuple elts kk tp) (PairsS x y) [N + 4, N + 2, N + 3, N, N + 1] (N + 4)
      (fun i h => IsZip h (N + 4) (N + 2) (N + 3) .none ∧ IsTupOf2 h (N + 2) (.ref N) (.ref (N + 1)) ∧ (∃ a b, IsTupOf2 h (N + 3) a b) ∧ h.IsStrIter N (strIterType x) x t i ∧ h.IsStrIter (N + 1) (strIterType y) y u i) where
  mem := by simp
  obj := fun i h st b hb => by
    obtain ⟨z1, z2, ⟨_, _, z3⟩, ⟨o4, z4, _, d4⟩, ⟨o5, z5, _, d5⟩⟩ := st
    rcases (by simpa using hb : b = N + 4 ∨ b = N + 2 ∨ b = N + 3 ∨ b = N ∨ b = N + 1) with e | e | e | e | e
    · exact ⟨_, by rw [e]; exact z1, fun v q => by cases q⟩
    · exact ⟨_, by rw [e]; exact z2, fun v q => by cases q⟩
    · exact ⟨_, by rw [e]; exact z3, fun v q => by cases q⟩
    · exact ⟨o4, by rw [e]; exact z4, fun v q => by rw [d4] at q; cases q⟩
    · exact ⟨o5, by rw [e]; exact z5, fun v q => by rw [d5] at q; cases q⟩
  keep := fun i h h' st hk => by
    obtain ⟨z1, z2, ⟨a, b, z3⟩, z4, z5⟩ := st
    exact ⟨hk _ (by simp) _ z1, hk _ (by simp) _ z2, ⟨a, b, hk _ (by simp) _ z3⟩, let ⟨o, e, r⟩ := z4; ⟨o, hk _ (by simp) o e, r⟩, let ⟨o, e, r⟩ := z5; ⟨o, hk _ (by simp) o e, r⟩⟩
  item := by
    intro X hP hw hK hc i pins s σ H E I hf st hg
    subst hP hw hK
    have hh : X.A.handled = none := I.ok.hd hc
    have D1 := Draws.text (prog := X.prog) (w := X.w) (A := X.A.in1) hh N x t
    have D2 := Draws.text (prog := X.prog) (w := X.w) (A := X.A.in1) hh (N + 1) y u
    have S : ZipSep2 (N + 4) (N + 2) (N + 3) N (N + 1) [N] [N + 1] := zip_sep2 (fp1 := []) (fp2 := []) (fun _ h => nomatch h) (fun _ h => nomatch h)
    have G := GoesN.zip2 (elts := elts) (x1 := kk) (pos := tp) S D1 D2
    refine G.goes i s _ E hg st fun v h' tk hY st' hk _ => ?_
    obtain ⟨T, a, b, rfl, hT, ⟨c, t1, hc1, rfl⟩, ⟨d, t2, hd1, rfl⟩, hTup⟩ := hY
    have fr : H T = none := I.hok.fresh hT
    refine ⟨.ref T, upd H T (.tup [.str ⟨#[c]⟩, .str ⟨#[d]⟩]), I.turnedNew (t' := tk) (ch := [N + 4, N + 3, N, N + 1]) hk (fun b hb => hf b ?_) hT ?_, rfl, ⟨T, c, d, rfl, fr, rfl, hc1, hd1⟩, st', fun b hb => ?_⟩
    · rcases (by simpa using hb : b = N + 4 ∨ b = N + 3 ∨ b = N ∨ b = N + 1) with e | e | e | e <;> simp [e]
    · exact ⟨by show 2 ≤ sizeLine; decide, _, .cons ⟨_, rfl⟩ (.cons ⟨_, rfl⟩ .nil), hTup⟩
    · have hlt : b < s.heap.objs.size := by
        obtain ⟨z1, z2, ⟨_, _, z3⟩, ⟨o4, z4, _⟩, ⟨o5, z5, _⟩⟩ := st
        rcases (by simpa using hb : b = N + 4 ∨ b = N + 2 ∨ b = N + 3 ∨ b = N ∨ b = N + 1) with e | e | e | e | e
        · rw [e]; exact Heap.lt_size z1
        · rw [e]; exact Heap.lt_size z2
        · rw [e]; exact Heap.lt_size z3
        · rw [e]; exact Heap.lt_size z4
        · rw [e]; exact Heap.lt_size z5
      rw [upd_ne (Nat.ne_of_lt (Nat.lt_of_lt_of_le hlt hT))]
      exact (hf b hb).1
  done := by
    intro X hP hw hK hc i pins s σ H E I hf st hg
    subst hP hw hK
    have hh : X.A.handled = none := I.ok.hd hc
    have D1 := Draws.text (prog := X.prog) (w := X.w) (A := X.A.in1) hh N x t
    have D2 := Draws.text (prog := X.prog) (w := X.w) (A := X.A.in1) hh (N + 1) y u
    have S : ZipSep2 (N + 4) (N + 2) (N + 3) N (N + 1) [N] [N + 1] := zip_sep2 (fp1 := []) (fp2 := []) (fun _ h => nomatch h) (fun _ h => nomatch h)
    have G := GoesN.zip2 (elts := elts) (x1 := kk) (pos := tp) S D1 D2
    have hi : i = min x.cps.size y.cps.size := hg
    rw [hi] at st
    refine G.stops s _ E st fun h' tk hk _ => ?_
    refine I.turnedL (t' := tk) (ch := [N + 4, N + 3, N, N + 1]) hk fun b hb => hf b ?_
    rcases (by simpa using hb : b = N + 4 ∨ b = N + 3 ∨ b = N ∨ b = N + 1) with e | e | e | e <;> simp [e]
  self := fun A i s Q E st h => wpAny_pyIter_zip st.1 h
def iZipS (ta : TA) : TI := fun σ H R => ta σ H fun vs H1 => ∃ x y, vs = [.str x, .str y] ∧ R (PairsS x y) H1
theorem pi_zipS {X : Cx} {e e2 : Expr} {ta : TA} {p pos tpos : Pos} {elts : List Expr} {kk : Nat} (hg : Gl X "zip") (hm : X.mg "zip" = none) (ha : PA X [e, e2] ta)
    (hs : starEach [e, e2] X.env = (false, eval e X.env) :: starEach [e2] X.env := by rfl) (hpl : (backTo pos (starEach [e2] X.env)).any (·.1) = false := by rfl) :
    PI X (.Tuple elts kk tpos) (.Call (.Name "zip" p) [e, e2] [] pos) (iZipS ta) := by
  refine ⟨fun pins s σ H R I h => Call_ (ld_blt I hg hm boot_zip (callWith_type1 (thn (ha.run pos pins s σ H _ I h) fun us s1 q => ?_) hs hpl))⟩
  obtain ⟨vs, H1, I1, rel, x, y, rfl, q⟩ := q
  obtain ⟨u1, u2, rfl, ⟨t1, rfl⟩, ⟨t2, rfl⟩⟩ := vals2 rel
  refine zip_begins2 (begins_text x t1) (begins_text y t2) trivial trivial fun h' z1 z2 z3 z4 z5 hsz hk => wpAny_pyIter_zip z1 ?_
  refine ⟨_, _, _, _, H1, rfl, I1.kept (t' := s1.toks) hk, turnZipS (N := s1.heap.objs.size) x y t1 t2, ⟨z1, z2, ⟨_, _, z3⟩, ⟨_, z4, rfl, rfl⟩, ⟨_, z5, rfl, rfl⟩⟩, fun b hb => ?_, q⟩
  have hle : s1.heap.objs.size ≤ b := by
    rcases (by simpa using hb : b = s1.heap.objs.size + 4 ∨ b = s1.heap.objs.size + 2 ∨ b = s1.heap.objs.size + 3 ∨ b = s1.heap.objs.size ∨ b = s1.heap.objs.size + 1) with e | e | e | e | e <;> rw [e] <;> first | exact Nat.le_add_right _ _ | exact Nat.le_refl _
  exact I1.fpOk hle (I1.hok.fresh hle)
end SWL
set_option Elab.async false
set_option linter.all false
set_option maxRecDepth 100000
set_option maxHeartbeats 4000000
namespace SWL
open PySem PySem.Spec PyProof.Rows L2
/-! an object that nobody tracked is tracked from now on; data under growth; sorted by data -/
def Grows (H H' : Hp) : Prop := ∀ b o, H b = some o → H' b = some o
theorem Grows.refl (H : Hp) : Grows H H := fun _ _ h => h
theorem Grows.trans {H H1 H2 : Hp} (a : Grows H H1) (b : Grows H1 H2) : Grows H H2 := fun c o h => b c o (a c o h)
theorem Grows.new {H : Hp} {p : Addr} {o : HO} (h : H p = none) : Grows H (upd H p o) := fun b u e => by
  rw [upd_ne (ne_of_none e h)]
  exact e
theorem Grows.rd {H H' : Hp} (g : Grows H H') {a : Addr} {u : HO} (r : Rd H a u) : Rd H' a u := by
  rcases r with r | ⟨o, r⟩
  · exact .inl (g _ _ r)
  · exact .inr ⟨o, g _ _ r⟩
theorem Grows.l {K : PySem.W.Frag} {H H' : Hp} (g : Grows H H') {a : Addr} {xs : List V} (h : SqL K H a xs) : SqL K H' a xs := h.imp g.rd id
theorem Grows.t {K : PySem.W.Frag} {H H' : Hp} (g : Grows H H') {a : Addr} {xs : List V} (h : SqT K H a xs) : SqT K H' a xs := h.imp g.rd id
mutual
theorem Grows.dp {K : PySem.W.Frag} {H H' : Hp} (g : Grows H H') : ∀ (d : PyData) (v : V), Dp K H v d → Dp K H' v d
  | .none, _, h => by cases h; exact .non
  | .bool _, _, h => by cases h; exact .bl _
  | .int _, _, h => by cases h; exact .int _
  | .str _, _, h => by cases h; exact .str _
  | .list ds, _, h => by
    cases h with
    | lst h1 h2 => exact .lst (g.l h1) (Grows.dps g ds _ h2)
  | .tuple ds, _, h => by
    cases h with
    | tup h1 h2 => exact .tup (g.t h1) (Grows.dps g ds _ h2)
  | .dict _, _, h => by cases h
theorem Grows.dps {K : PySem.W.Frag} {H H' : Hp} (g : Grows H H') : ∀ (ds : List PyData) (vs : List V), DpAll K H vs ds → DpAll K H' vs ds
  | [], _, h => by cases h; exact .nil
  | d :: ds, _, h => by
    cases h with
    | cons h1 h2 => exact .cons (Grows.dp g d _ h1) (Grows.dps g ds _ h2)
end
section
variable {X : Cx} {pins : List (Addr × Obj)} {σ : L2.St} {H : Hp} {s : Shared}
theorem track {a : Addr} {o : HO} (I : Inv X pins σ H s) (f : FpOk X pins H a) (h0 : X.s_0.heap.objs.size ≤ a) (new : ObjOk X.prog X.w (upd H a o) s.heap a o) : Inv X pins σ (upd H a o) s := by
  obtain ⟨hn, hL, _, _, hc, hp⟩ := f
  have ne : ∀ b u, H b = some u → b ≠ a := fun b u e => ne_of_none e hn
  refine ⟨I.ok, I.os, I.bare, ⟨I.base.keep, I.base.slot, fun b u e n hx => ?_, I.base.there, fun b xs e => ?_, fun b u xs e => ?_, fun b ps e => ?_⟩, I.loc, I.cell, ?_, fun x c e => ?_, fun p hq => ?_, fun b u e => ?_, I.len⟩
  · rw [upd_ne (Nat.ne_of_lt (Nat.lt_of_lt_of_le (Heap.lt_size e) h0))]
    exact I.base.free b u e n hx
  · have q := I.base.tups b xs e
    rw [upd_ne (ne _ _ q)]
    exact q
  · have q := I.base.frzs b u xs e
    rw [upd_ne (ne _ _ q)]
    exact q
  · obtain ⟨m, q⟩ := I.base.tbls b ps e
    exact ⟨m, by rw [upd_ne (ne _ _ q)]; exact q⟩
  · rw [upd_ne hL.symm]
    exact I.free
  · rw [upd_ne (hc x c e)]
    exact I.freeC x c e
  · obtain ⟨q1, q2, q3⟩ := I.pin p hq
    exact ⟨q1, by rw [upd_ne (hp p hq)]; exact q2, q3⟩
  · by_cases hb : b = a
    · subst hb
      rw [upd_same] at e
      cases e
      exact new
    · rw [upd_ne hb] at e
      refine (I.hok b u e).stay (fun c v _ q => q) (fun c q => ?_) fun c xs q => ?_
      · rw [upd_ne (ne _ _ q)]
        exact q
      · rw [upd_ne (ne _ _ q)]
        exact q
/-- a place that is new to the state s is no frame's -/
theorem noFrame (I : Inv X pins σ H s) {b : Addr} (h : s.heap.objs.size ≤ b) : b ∉ frs X.stack := fun z => by
  rcases List.mem_cons.mp (I.stkSub b z) with e | e
  · have q := I.lt
    rw [← e] at q
    exact Nat.lt_irrefl _ (Nat.lt_of_lt_of_le q h)
  · exact I.nofs h e
theorem each_vals : ∀ {xs : List V} {us : List Value}, PySem.W.EachIs (fun u x => RelV x u) us xs → Vals xs us
  | _, _, .nil => .nil
  | _, _, .cons h t => .cons h (each_vals t)
theorem vals_each : ∀ {xs : List V} {us : List Value}, Vals xs us → PySem.W.EachIs (fun u x => RelV x u) us xs
  | _, _, .nil => .nil
  | _, _, .cons h t => .cons h (vals_each t)
end
/-- sorted(xs): the items read as data by k; what comes is THE sorted list -/
def askSorted (K : PySem.W.Frag) : List V → Hp → VK → Prop := fun xs H Q => ∃ (a : Addr) (items : List V) (k : V → PyData), xs = [.ref a] ∧ SqL K H a items ∧ (∀ x ∈ items, Dp K H x (k x)) ∧
  PySem.W.AllAlike (items.map k) ∧ PySem.W.Sortable (items.map k) ∧ (∀ x ∈ items, (k x).depth ≤ 50) ∧ ∀ p, H p = none → Q (.ref p) (upd H p (.lst (items.mergeSort (PySem.W.dataLe false k))))
theorem each_reads {X : Cx} {pins : List (Addr × Obj)} {σ : L2.St} {H : Hp} {s : Shared} (I : Inv X pins σ H s) (k : V → PyData) : ∀ {xs : List V} {us : List Value}, Vals xs us → (∀ x ∈ xs, Dp X.K H x (k x)) → PySem.W.EachIs (fun v x => ∃ as, Reads s.heap v (k x) as) us xs
  | _, _, .nil, _ => .nil
  | _, _, .cons h t, hd => .cons (Dp.reads I _ _ _ (hd _ List.mem_cons_self) h) (each_reads I k t fun x hx => hd x (List.mem_cons_of_mem _ hx))
section
variable {X : Cx}
theorem cr_sorted (hu : X.A.units + 64 < cLine) : CallR X (.builtin "sorted") (askSorted X.K) := by
  intro pins s σ H xs us Q I rel q
  obtain ⟨a, items, k, rfl, hs, hd, hal, hk, hdep, q⟩ := q
  obtain ⟨u, rfl, ru⟩ := vals1 rel
  cases ru
  obtain ⟨its, rv, hl, hz⟩ := I.list hs
  refine PySem.W.sorted_data (vs := its) (R := fun u x => RelV x u) (enc := k) (bs := items) hl.isList (vals_each rv) (each_reads I k rv hd) hal hk hz (fun x hx => ?_) fun out hlen ho => ?_
  · have := hdep x hx
    omega
  · obtain ⟨c, hc⟩ := sortedAll_at s.heap its out.toArray
    have hlen2 : (items.mergeSort (PySem.W.dataLe false k)).length ≤ sizeLine := by
      rw [List.length_mergeSort]
      exact hz
    exact ⟨.ref _, _, I.laid (t' := s.toks) (fun _ _ => sortedAll_old) (Nat.le_succ _) (show ObjOk X.prog X.w _ _ _ (.lst (items.mergeSort (PySem.W.dataLe false k))) from ⟨hlen2, out, c, each_vals ho, hc⟩), rfl, q _ (I.hok.fresh (Nat.le_succ _))⟩
end
end SWL
set_option Elab.async false
set_option linter.all false
set_option maxRecDepth 100000
set_option maxHeartbeats 4000000
namespace SWL
open PySem PySem.Spec PyProof.Rows L2 Calls
section
variable {prog : Program} {w : World} {A : Around} {s : Shared} {E : Value → Shared → Prop}
/-- sorted(xs, ..), xs a list or a tuple, is list.sort(..) of a new list -/
theorem collect_seq {T : String} (hT : T = "list" ∨ T = "tuple") {l : Addr} {vs : List Value} {o : Obj} {n : Nat} {Q : List Value → Shared → Prop} (ho : s.heap.get? l = some o) (hc : o.cls = .type T) (hd : o.data = .seq vs.toArray n)
    (hsz : vs.length ≤ sizeLine) (h : Q vs { s with heap := (s.heap.push (seqObj "list" #[] 0)).update s.heap.objs.size (Obj.mapSeq (· ++ vs.toArray)) }) : wpAny (model prog w) A (collect (.ref l)) Q E s := by
  have hnew : ∀ {h : Heap}, (h.push (seqObj "list" #[] 0)).get? h.objs.size = some (seqObj "list" #[] 0) := fun {h} => Heap.get?_push_size _ rfl
  have hold : (s.heap.push (seqObj "list" #[] 0)).get? l = some o := Heap.get?_push_of_some _ ho
  unfold collect
  refine wpAny_bind (wpAny_runValue (codeAny_builtin entry_proto_collect' (wpAny_bind (wpAny_newList (wpAny_pure ⟨Code.quiet_builtin _ (by decide +kernel), codeAny_builtin entry_list_iadd' ?_⟩)))))
  show wpAny _ _ (Builtin.List.listExtendWith (.ref s.heap.objs.size) (.ref l) (.ref s.heap.objs.size)) _ _ { s with heap := s.heap.push (seqObj "list" #[] 0) }
  unfold Builtin.List.listExtendWith
  refine wpAny_bind (wpAny_typeOf (T := T) ⟨o, hold, hc⟩ ?_)
  rw [if_pos (by rcases hT with e | e <;> subst e <;> first | rfl | decide | simp)]
  refine wpAny_bind (listItems_at hold hd (wpAny_bind (listItems_at (xs := #[]) (n := 0) hnew rfl ?_)))
  rw [if_neg (by simp)]
  refine wpAny_bind (listUpdate_at (xs := #[]) (n := 0) hnew rfl (wpAny_pure ?_) (Nat.zero_le _) (by show (#[] ++ vs.toArray).size ≤ sizeLine + 1; simp only [Array.size_append, List.size_toArray, List.length_nil]; omega))
  refine wpAny_bind (wpAny_load (get?_update_seq hnew _) ?_)
  have e : ((#[] : Array Value) ++ vs.toArray).toList = vs := by simp
  show wpAny _ _ (pure ((#[] : Array Value) ++ vs.toArray).toList) Q E _
  rw [e]
  exact wpAny_pure h
theorem sorted_of_seq {T : String} (hT : T = "list" ∨ T = "tuple") {l : Addr} {vs : List Value} {o : Obj} {n : Nat} {kw : List (Str × Value)} {Q : Value → Shared → Prop} (ho : s.heap.get? l = some o) (hc : o.cls = .type T) (hd : o.data = .seq vs.toArray n)
    (hL : vs.length ≤ sizeLine) (ha1 : argsOk "sorted" ⟨[.ref l], kw⟩) (ha2 : ∀ x, argsOk "list.sort" ⟨[.ref x], kw⟩)
    (body : ∀ E' : Value → Shared → Prop, wpAny (model prog w) A.in1.in1 (Builtin.«list.sort» ⟨[.ref (s.heap.objs.size + 1)], kw⟩) (fun f s' => f = .done (.ret .none) ∧ Q (.ref (s.heap.objs.size + 1)) s') E' { s with heap := PySem.W.copyHeap s.heap vs }) :
    wpAny (model prog w) A (call (.builtin "sorted") [.ref l] kw) Q E s := by
  refine call_function_entry_kw kind_sorted plain_sorted entry_sorted ha1 ?_
  unfold Builtin.«sorted»
  refine wpAny_bind (m := checkCount "sorted" 1 1 _) (wpAny_pure (wpAny_bind (collect_seq hT ho hc hd hL (wpAny_bind (wpAny_newList ?_ hL)))))
  have hs : ((s.heap.push (seqObj "list" #[] 0)).update s.heap.objs.size (Obj.mapSeq (· ++ vs.toArray))).objs.size = s.heap.objs.size + 1 := (Heap.size_update ..).trans (size_push' ..)
  show wpAny _ _ _ _ _ { s with heap := PySem.W.copyHeap s.heap vs }
  rw [hs]
  refine wpAny_bind (wpAny_holding (wpAny_call_entry_kw slot_list_sort ⟨_, PySem.W.copyHeap_at s.heap vs, rfl⟩ entry_list_sort ?_ (ha2 _)))
  refine wpAny_mono (body _) (fun f s' hf => ?_) fun _ _ e => e
  obtain ⟨rfl, hq⟩ := hf
  exact ⟨_, rfl, wpAny_pure ⟨_, rfl, hq⟩⟩
end
/-- a list or a tuple of xs -/
def Sq (K : PySem.W.Frag) (H : Hp) (a : Addr) (xs : List V) : Prop := SqL K H a xs ∨ SqT K H a xs
theorem isq {X : Cx} {pins : List (Addr × Obj)} {σ : L2.St} {H : Hp} {s : Shared} {a : Addr} {xs : List V} (I : Inv X pins σ H s) (h : Sq X.K H a xs) : ∃ (vs : List Value) (T : String) (o : Obj) (n : Nat), Vals xs vs ∧ (T = "list" ∨ T = "tuple") ∧ s.heap.get? a = some o ∧ o.cls = .type T ∧ o.data = .seq vs.toArray n ∧ xs.length ≤ sizeLine := by
  rcases h with h | h
  · obtain ⟨its, r, ⟨o, n, e, c, _, d⟩, z⟩ := I.list h
    exact ⟨its, "list", o, n, r, .inl rfl, e, c, d, z⟩
  · obtain ⟨its, r, ⟨o, e, c, n, d⟩, z⟩ := I.tuple h
    exact ⟨its, "tuple", o, n, r, .inr rfl, e, c, d, z⟩
theorem Grows.sq {K : PySem.W.Frag} {H H' : Hp} (g : Grows H H') {a : Addr} {xs : List V} (h : Sq K H a xs) : Sq K H' a xs := h.imp g.l g.t
end SWL
set_option Elab.async false
set_option linter.all false
set_option maxRecDepth 100000
set_option maxHeartbeats 4000000
namespace SWL
open PySem PySem.Spec PyProof.Rows L2
/-! sorted(xs, key=f), f a def of the text that raises nothing -/
def askSortedKey (K : PySem.W.Frag) (sp : Sp) (f : Addr) : List V → List V → Hp → VK → Prop := fun xs zs H Q => ∃ (a : Addr) (items : List V) (k : V → PyData), xs = [.ref a] ∧ zs = [.ref f] ∧ Sq K H a items ∧
  (∀ x ∈ items, ∀ H1, Grows H H1 → sp [x] H1 (fun v H2 => Grows H1 H2 ∧ Dp K H2 v (k x)) E0) ∧
  PySem.W.AllAlike (items.map k) ∧ PySem.W.Sortable (items.map k) ∧ (∀ x ∈ items, (k x).depth ≤ 50) ∧ ∀ H1 p, Grows H H1 → H1 p = none → Q (.ref p) (upd H1 p (.lst (items.mergeSort (PySem.W.dataLe false k))))
section
variable {X : Cx} {pins : List (Addr × Obj)} {σ : L2.St} {H : Hp} {s : Shared}
/-- one call from within two built-in calls: what stood untracked and is no frame's stands -/
theorem callIn {k : Nat} {f : Addr} {fd : FuncData} {ps : Str} {sp : Sp} {Q : VK} {x : V} {u : Value} {A : Around} {E : Value → Shared → Prop} {R : Value → Shared → Prop} (F : FnOk X.prog X.w X.K X.mg X.base CX0 k f fd [ps] sp) (hb : Binds X.K fd [ps] []) (hr : Room k A) (hA : A.frames = X.A.frames)
    (I : Inv X pins σ H s) (rx : RelV x u) (h : sp [x] H Q E0)
    (hR : ∀ (v : V) (w : Value) (H' : Hp) (s' : Shared), Inv X pins σ H' s' → RelV v w → Q v H' → (∀ b o, s.heap.get? b = some o → H b = none → b ∉ frs X.stack → s'.heap.get? b = some o ∧ H' b = none) → R w s') :
    wpAny (model X.prog X.w) A (call (.ref f) [u]) R E s := by
  have e1 := I.env0
  have e0 : Env0 X.prog X.w X.K X.mg X.base A X.stack s H := ⟨by rw [hA]; exact e1.frames, e1.mod, e1.bs, e1.bsz, e1.funs, e1.frf, e1.hok, e1.bare⟩
  refine wpAny_call (codeAny_mono (F.run A X.stack s H ⟨[u], []⟩ [u] [x] Q E0 hr e0 (hb s [u] I.kIn rfl) (.cons rx .nil) h) fun r s' hq => ?_)
  cases r with
  | error e => exact False.elim hq
  | ok fl =>
    cases fl with
    | next => exact False.elim hq
    | brk => exact False.elim hq
    | cont => exact False.elim hq
    | ret w =>
      obtain ⟨v, H', os, bare, un, hok, rv, q⟩ := hq
      obtain ⟨v2, H2, J, rv2, e1, e2⟩ := I.after (Q := fun v2 H2 => v2 = v ∧ H2 = H') ⟨v, H', os, bare, un, hok, rv, rfl, rfl⟩
      subst e1 e2
      exact hR _ _ _ _ J rv q fun b o e n nf => ⟨un.keep b o e n nf (by simp), un.free b o e n (by simp)⟩
theorem each_dp {K : PySem.W.Frag} {k : V → PyData} {H H' : Hp} (g : Grows H H') {us : List Value} {xs : List V} (h : PySem.W.EachIs (fun v x => ∃ y, RelV y v ∧ Dp K H y (k x)) us xs) : PySem.W.EachIs (fun v x => ∃ y, RelV y v ∧ Dp K H' y (k x)) us xs :=
  h.mono fun v x ⟨y, r, d⟩ => ⟨y, r, g.dp _ _ d⟩
theorem each_last {α β : Type} {R : α → β → Prop} {a : α} {b : β} (h : R a b) : ∀ {as : List α} {bs : List β}, PySem.W.EachIs R as bs → PySem.W.EachIs R (as ++ [a]) (bs ++ [b])
  | _, _, .nil => .cons h .nil
  | _, _, .cons q t => .cons q (each_last h t)
theorem crk_sortedKey {k : Nat} {f : Addr} {fd : FuncData} {ps : Str} {sp : Sp} (F : FnOk X.prog X.w X.K X.mg X.base CX0 k f fd [ps] sp) (hb : Binds X.K fd [ps] []) (hr : Room (k + 2) X.A) : CallRK X (.builtin "sorted") [Str.ofString "key"] (askSortedKey X.K sp f) := by
  intro pins s σ H xs zs us ws Q I rel relz q
  obtain ⟨a0, items, kf, rfl, rfl, hs, hsp, hal, hk, hdep, q⟩ := q
  obtain ⟨u, rfl, ru⟩ := vals1 rel
  obtain ⟨wf, rfl, rw_⟩ := vals1 relz
  cases ru
  cases rw_
  obtain ⟨vs, T, o, n, rv, hT, hget, hcl, hdt, hz⟩ := isq I hs
  have hvl : vs.length = items.length := rv.length.symm
  have hzv : vs.length ≤ sizeLine := by rw [hvl]; exact hz
  have hunits : X.A.units + 16 * (k + 2) + 200 < cLine := hr.un
  show wpAny _ _ (call (.builtin "sorted") [.ref a0] [(Str.ofString "key", .ref f)]) _ _ _
  refine sorted_of_seq hT hget hcl hdt hzv (ksk_s1 _ _) (fun _ => ksk_l1 _ _) fun E' => ?_
  rw [ksk_t1]
  generalize hA : s.heap.objs.size + 1 = a
  have I0 : Inv X pins σ H { s with heap := PySem.W.copyHeap s.heap vs } := I.kept (t' := s.toks) fun b o e => PySem.W.copyHeap_old e
  have ha : (PySem.W.copyHeap s.heap vs).get? a = some (seqObj "list" vs.toArray 0) := by rw [← hA]; exact PySem.W.copyHeap_at s.heap vs
  obtain ⟨e1, ha1⟩ : ∃ e1, ((PySem.W.copyHeap s.heap vs).update a (Obj.mapSeq fun _ => (#[] : Array Value))).get? a = some (seqObj "list" #[] e1) := ⟨_, get?_update_seq ha fun _ => #[]⟩
  have szS : s.heap.objs.size ≤ a := by rw [← hA]; exact Nat.le_succ _
  unfold ksk_tree
  refine wpAny_bind (listItems_at ha rfl ?_)
  refine wpAny_bind (listUpdate_at ha rfl ?_ (by rw [List.size_toArray]; exact hzv) (Nat.zero_le _))
  refine wpAny_bind (seqEpoch_at ha1 rfl ?_)
  refine wpAny_bind (wpAny_newTuple ?_ (by show vs.length ≤ _; exact hzv))
  refine wpAny_bind (wpAny_newList ?_ (Nat.zero_le _))
  refine wpAny_holding ?_
  generalize hh3 : (((PySem.W.copyHeap s.heap vs).update a (Obj.mapSeq fun _ => (#[] : Array Value))).push (seqObj "tuple" vs.toArray 0)) = h2
  generalize hkS : h2.objs.size = kS
  have keep : ∀ b o, s.heap.get? b = some o → (h2.push (seqObj "list" #[] 0)).get? b = some o := fun b o e => by
    have q := PySem.W.sorting_copy_old (vs := vs) e
    unfold PySem.W.sortingHeap at q
    rw [hA, hh3] at q
    exact q
  have hkS3 : (h2.push (seqObj "list" #[] 0)).get? kS = some (seqObj "list" #[] 0) := by rw [← hkS]; exact Heap.get?_push_size _ rfl
  have ha3 : (h2.push (seqObj "list" #[] 0)).get? a = some (seqObj "list" #[] e1) := by
    refine Heap.get?_push_of_some _ ?_
    rw [← hh3]
    exact Heap.get?_push_of_some _ ha1
  have hkSa : a < kS := by
    rw [← hkS, ← hh3, size_push', Heap.size_update]
    exact Nat.lt_succ_of_lt (Heap.lt_size ha)
  have szK : s.heap.objs.size ≤ kS := Nat.le_trans szS (Nat.le_of_lt hkSa)
  have I3 : Inv X pins σ H { s with heap := h2.push (seqObj "list" #[] 0) } := I.kept (t' := s.toks) keep
  have fpK : ∀ {H' : Hp}, H' kS = none → FpOk X pins H' kS := fun n => I.fpOk szK n
  have fpA : ∀ {H' : Hp}, H' a = none → FpOk X pins H' a := fun n => I.fpOk szS n
  have nfK := noFrame I szK
  have nfA := noFrame I szS
  show wpAny _ X.A.in1.in1 (ksk_rest a (.ref f) false vs.toArray e1 (.ref kS)) _ _ _
  unfold ksk_rest
  refine wpAny_bind (wpAny_rule ?_)
  first
    | rw [List.forIn_toArray]
    | (rw [← Array.forIn_toList]; simp only [List.toList_toArray])
  refine wpAny_bind (ksk_fold (fun i s' => ∃ (Hc : Hp) (kA : Array Value) (e : Nat), Inv X pins σ Hc s' ∧ Grows H Hc ∧ s'.heap.get? kS = some (seqObj "list" kA e) ∧ s'.heap.get? a = some (seqObj "list" #[] e1) ∧ Hc kS = none ∧ Hc a = none ∧
    PySem.W.EachIs (fun v x => ∃ y, RelV y v ∧ Dp X.K Hc y (kf x)) kA.toList (items.take i)) vs 0 _ ⟨H, #[], 0, I3, .refl H, hkS3, ha3, I.hok.fresh szK, I.hok.fresh szS, by rw [List.take_zero]; exact .nil⟩ ?step ?done)
  case step =>
    rintro j v s' hx ⟨Hc, kA, e, J, g, nk, na, fk, fa, hE⟩
    simp only [Nat.zero_add] at hE ⊢
    have hj : j < items.length := by
      rw [← hvl]
      exact (List.getElem?_eq_some_iff.mp hx).1
    have hxi : items[j]? = some items[j] := List.getElem?_eq_getElem hj
    obtain ⟨v', hv', rx⟩ := rv.get hxi
    rw [hx] at hv'
    cases hv'
    have hsz : kA.size ≤ vs.length := by
      have h1 := hE.length
      rw [Array.length_toList, List.length_take] at h1
      omega
    refine wpAny_bind (wpAny_attempt ?_)
    refine callIn (A := X.A.in1.in1) F hb ((hr.in1).in1) rfl J rx (hsp _ (List.getElem_mem hj) Hc g) fun y w H' s2 J2 ry hy hkeep => ?_
    obtain ⟨g2, hd⟩ := hy
    obtain ⟨nk2, fk2⟩ := hkeep kS _ nk fk nfK
    obtain ⟨na2, fa2⟩ := hkeep a _ na fa nfA
    try dsimp only
    have s1 := Heap.SameBut.update s2.heap kS (Obj.mapSeq (·.push w))
    obtain ⟨c2, hc2⟩ : ∃ c2, (s2.heap.update kS (Obj.mapSeq (·.push w))).get? kS = some (seqObj "list" (kA.push w) c2) := ⟨_, get?_update_seq nk2 (·.push w)⟩
    refine wpAny_bind (listUpdate_at nk2 rfl ?_ (Nat.le_trans hsz hzv) (Nat.le_trans (Nat.le_of_eq (Array.size_push ..)) (Nat.succ_le_succ (Nat.le_trans hsz hzv))))
    have J3 : Inv X pins σ H' { s2 with heap := s2.heap.update kS (Obj.mapSeq (·.push w)) } := by
      obtain ⟨z1, z2, _, z3, z4, z5⟩ := fpK fk2
      exact J2.turned (t' := s2.toks) (it := kS) (fun b o hb e => (s1.2 b hb).trans e) z1 z2 z3 z4 z5
    refine wpAny_pure ⟨rfl, H', kA.push w, c2, J3, g.trans g2, hc2, (s1.2 a (Nat.ne_of_lt hkSa)).trans na2, fk2, fa2, ?_⟩
    have ek : items.take (j + 1) = items.take j ++ [items[j]] := by rw [List.take_add_one, hxi]; rfl
    rw [ek, Array.toList_push]
    exact each_last ⟨y, ry, hd⟩ (each_dp g2 hE)
  case done =>
    rintro s' ⟨Hc, kA, e, J, g, nk, na, fk, fa, hE⟩
    have et : items.take (0 + vs.length) = items := List.take_of_length_le (by omega)
    rw [et] at hE
    have hsz : kA.size = vs.length := by
      have h1 := hE.length
      rw [Array.length_toList] at h1
      omega
    try dsimp only
    refine wpAny_bind (listItems_at nk rfl ?_)
    have hE2 : PySem.W.EachIs (fun v d => ∃ as, Reads s'.heap v d as) kA.toList (items.map kf) := PySem.W.each_map kf (hE.mono fun v x ⟨y, r, d⟩ => Dp.reads J _ _ _ d r)
    have hkp : PySem.W.KeepsBut a (PySem.W.hideAll s'.heap [kS]) s'.heap := fun b o _ e => PySem.W.of_hideAll _ e
    refine PySem.W.keyH_end (κ := PySem.W.dataKind s'.heap (items.map kf)) (h₁ := PySem.W.hideAll s'.heap [kS]) hkp (PySem.W.hideAll_none _ (by simp)) nk na (Nat.ne_of_gt hkSa)
      (PySem.W.SortsAt.data (s := s') hE2 hal hk (fun d hd => ?_)) hsz hzv fun h3 tk3 c k3 n3 => ⟨rfl, ?_⟩
    · obtain ⟨x, hx, rfl⟩ := List.mem_map.mp hd
      have := hdep x hx
      show X.A.units + 1 + 1 + _ < _
      omega
    · have ko : PySem.W.KeyedOut false (items.map kf) vs (PySem.W.sortVals (PySem.W.dataKind s'.heap (items.map kf)) false kA.toList vs) := ⟨s'.heap, kA.toList, hal, rfl, hE2⟩
      have ho := PySem.W.keyedOut_each kf ko (vals_each rv)
      have J3 : Inv X pins σ Hc { s' with heap := h3, toks := tk3 } := J.turnedL (t' := tk3) (ch := [a, kS]) (fun b o hb e => by
        rw [List.mem_cons, List.mem_singleton, not_or] at hb
        exact k3 b o hb.1 (PySem.W.hideAll_get _ e (by simpa using hb.2))) (fun b hb => by
        rcases (by simpa using hb : b = a ∨ b = kS) with z | z
        · rw [z]; exact fpA fa
        · rw [z]; exact fpK fk)
      have hlen2 : (items.mergeSort (PySem.W.dataLe false kf)).length ≤ sizeLine := by
        rw [List.length_mergeSort]
        exact hz
      exact ⟨.ref a, upd Hc a (.lst (items.mergeSort (PySem.W.dataLe false kf))), track J3 (fpA fa) (Nat.le_trans I.sz szS) ⟨hlen2, _, c, each_vals ho, n3⟩, rfl, q Hc a g fa⟩
end
end SWL
set_option Elab.async false
set_option linter.all false
set_option maxRecDepth 100000
set_option maxHeartbeats 4000000
namespace SWL
open PySem PySem.Spec PyProof.Rows L2
/-! sorted(dict(pairs)), the pairs' keys tuples of numbers and texts -/
def encK : Key → PyData
  | .inl i => .int i
  | .inr z => .str z
def encT (k : List Key) : PyData := .tuple (k.map encK)
def oneMore (acc : List (List Key)) (k : List Key) : List (List Key) := if acc.any (fun z => decide (z = k)) = true then acc else acc ++ [k]
def firsts (ks : List (List Key)) : List (List Key) := ks.foldl oneMore []
theorem atKey_isSome (k : List Key) : ∀ xs : List (List Key × Addr × Value), (atKey xs k).isSome = (xs.map (·.1)).any (fun z => decide (z = k))
  | [] => rfl
  | x :: xs => by
    have ih := atKey_isSome k xs
    unfold atKey at ih ⊢
    by_cases h : x.1 = k
    · simp [h]
    · simp only [List.find?_cons, h, decide_false, List.map_cons, List.any_cons, Bool.false_or]
      exact ih
theorem storedH_keys (xs : List (List Key × Addr × Value)) (k : List Key) (a : Addr) (v : Value) : (storedH xs k a v).map (·.1) = oneMore (xs.map (·.1)) k := by
  unfold storedH oneMore
  rw [atKey_isSome]
  split
  · rw [List.map_map]
    refine List.map_congr_left fun x _ => ?_
    simp only [Function.comp, putAt]
    split <;> rfl
  · rw [List.map_append]
    rfl
theorem storedAll_keys (ps : List (List Key × Addr × Value)) : (storedAllH [] ps).map (·.1) = firsts (ps.map (·.1)) := by
  have gen : ∀ (ps xs : List (List Key × Addr × Value)), (storedAllH xs ps).map (·.1) = (ps.map (·.1)).foldl oneMore (xs.map (·.1)) := by
    intro ps
    induction ps with
    | nil => intro xs; rfl
    | cons p ps ih =>
      intro xs
      show (storedAllH (storedH xs p.1 p.2.1 p.2.2) ps).map (·.1) = _
      rw [ih, storedH_keys]
      rfl
  exact gen ps []
/-- an item of the list: the pair's place, the key's place, the key, the value -/
structure PairIn where
  at_ : Addr
  key_at : Addr
  key : List Key
  val : V
def PairIn.ok (H : Hp) (p : PairIn) : Prop := H p.at_ = some (.tup [.ref p.key_at, p.val]) ∧ H p.key_at = some (.tup (p.key.map kV))
def askSortedDict (K : PySem.W.Frag) : V → Hp → VK → Prop := fun v H Q => ∃ (a : Addr) (ps : List PairIn), v = .ref a ∧ H a = some (.lst (ps.map fun p => .ref p.at_)) ∧ (∀ p ∈ ps, p.ok H) ∧
  PySem.W.AllAlike ((firsts (ps.map (·.key))).map encT) ∧ (∀ p ∈ ps, p.key ≠ []) ∧
  ∀ (out : List (Addr × List Key)), (∀ q ∈ out, H q.1 = some (.tup (q.2.map kV))) → out.map (·.2) = (firsts (ps.map (·.key))).mergeSort (PySem.W.dataLe false encT) → ∀ p, H p = none → Q (.ref p) (upd H p (.lst (out.map fun q => .ref q.1)))
theorem items_of {P : Program} {w : World} : ∀ (ks : List Key) (us : List Value), Vals (ks.map kV) us → ItemsAre (mixKind P w) ks us
  | [], _, h => by cases h; exact .nil
  | k :: ks, _, h => by
    cases h with
    | cons h1 h2 =>
      refine .cons ?_ (items_of ks _ h2)
      cases k with
      | inl i =>
        obtain ⟨t, rfl⟩ := h1
        exact keyIs_int i t
      | inr z =>
        obtain ⟨t, rfl⟩ := h1
        exact keyIs_str z t
theorem vals_of_items {P : Program} {w : World} {h : Heap} : ∀ (ks : List Key) (us : List Value), ItemsAre (mixKind P w) ks us → ReadsAll h us (ks.map encK) []
  | [], _, q => by cases q; exact .nil
  | k :: ks, _, q => by
    cases q with
    | cons h1 h2 =>
      rcases keyIs_shape h1 with ⟨i, t, rfl, rfl⟩ | ⟨z, t, rfl, rfl⟩
      · exact .cons (as := []) (bs := []) (.int i t) (vals_of_items ks _ h2)
      · exact .cons (as := []) (bs := []) (.str z t) (vals_of_items ks _ h2)
end SWL
set_option Elab.async false
set_option linter.all false
set_option maxRecDepth 100000
set_option maxHeartbeats 4000000
namespace SWL
open PySem PySem.Spec PyProof.Rows L2
section
variable {X : Cx} {pins : List (Addr × Obj)} {σ : L2.St} {H : Hp} {s : Shared}
/-- the pairs as the machine has them -/
theorem pairs_there (I : Inv X pins σ H s) : ∀ (ps : List PairIn), (∀ p ∈ ps, p.ok H) → ∃ xs : List (List Key × Addr × Value), xs.length = ps.length ∧
    ∀ (j : Nat) (p : PairIn), ps[j]? = some p → ∃ v, xs[j]? = some (p.key, p.key_at, v) ∧ PairAt s.heap p.at_ (.ref p.key_at) v ∧ IsTupleKey (mixKind X.prog X.w) s.heap p.key p.key_at
  | [], _ => ⟨[], rfl, fun j p h => by simp at h⟩
  | p :: ps, h => by
    obtain ⟨xs, hl, hx⟩ := pairs_there I ps fun q hq => h q (List.mem_cons_of_mem _ hq)
    obtain ⟨h1, h2⟩ := h p List.mem_cons_self
    obtain ⟨_, its, r1, t1⟩ := (show ObjOk X.prog X.w H s.heap p.at_ (.tup [.ref p.key_at, p.val]) from I.hok _ _ h1)
    obtain ⟨_, its2, r2, t2⟩ := (show ObjOk X.prog X.w H s.heap p.key_at (.tup (p.key.map kV)) from I.hok _ _ h2)
    obtain ⟨u1, u2, rfl, rr1, rr2⟩ := vals2 r1
    cases rr1
    refine ⟨(p.key, p.key_at, u2) :: xs, by simp [hl], fun j q hq => ?_⟩
    cases j with
    | zero =>
      have e : p = q := Option.some.inj hq
      subst e
      obtain ⟨o2, g1, g2, n2, g3⟩ := t2
      exact ⟨u2, rfl, .inl t1, ⟨o2, its2.toArray, n2, g1, g2, g3, items_of _ _ r2⟩⟩
    | succ j => exact hx j q hq
theorem tup_reads {P : Program} {w : World} {h : Heap} {k : List Key} {a : Addr} (x : IsTupleKey (mixKind P w) h k a) : Reads h (.ref a) (encT k) [] := by
  obtain ⟨o, its, n, h1, h2, h3, h4⟩ := x
  exact .tuple h1 h2 h3 (vals_of_items _ _ h4)
theorem storedH_mem {xs : List (List Key × Addr × Value)} {k : List Key} {a : Addr} {v : Value} {y : List Key × Addr × Value} (h : y ∈ storedH xs k a v) : (∃ z ∈ xs, z.1 = y.1 ∧ z.2.1 = y.2.1) ∨ (y.1 = k ∧ y.2.1 = a) := by
  unfold storedH at h
  split at h
  · obtain ⟨z, hz, rfl⟩ := List.mem_map.mp h
    refine .inl ⟨z, hz, ?_⟩
    simp only [putAt]
    split <;> exact ⟨rfl, rfl⟩
  · rcases List.mem_append.mp h with q | q
    · exact .inl ⟨y, q, rfl, rfl⟩
    · have e := List.mem_singleton.mp q
      subst e
      exact .inr ⟨rfl, rfl⟩
theorem storedAll_mem : ∀ (ps xs : List (List Key × Addr × Value)) {y : List Key × Addr × Value}, y ∈ storedAllH xs ps → (∃ z ∈ xs, z.1 = y.1 ∧ z.2.1 = y.2.1) ∨ ∃ z ∈ ps, z.1 = y.1 ∧ z.2.1 = y.2.1
  | [], xs, y, h => .inl ⟨y, h, rfl, rfl⟩
  | p :: ps, xs, y, h => by
    rcases storedAll_mem ps (storedH xs p.1 p.2.1 p.2.2) h with ⟨z, hz, e1, e2⟩ | ⟨z, hz, e1, e2⟩
    · rcases storedH_mem hz with ⟨w, hw, f1, f2⟩ | ⟨f1, f2⟩
      · exact .inl ⟨w, hw, f1.trans e1, f2.trans e2⟩
      · exact .inr ⟨p, List.mem_cons_self, f1.symm.trans e1, f2.symm.trans e2⟩
    · exact .inr ⟨z, List.mem_cons_of_mem _ hz, e1, e2⟩
theorem each_toList {xs : List (List Key × Addr × Value)} {acc : Array Value} (hs : acc.size = xs.length) (h : ∀ (i : Nat) (v : Value), acc[i]? = some v → ∃ y, xs[i]? = some y ∧ v = Value.ref y.2.1) : PySem.W.EachIs (fun v (y : List Key × Addr × Value) => v = Value.ref y.2.1) acc.toList xs := by
  refine PySem.W.EachIs.of_zip (by rw [Array.length_toList]; exact hs) fun p hp => ?_
  obtain ⟨i, hi⟩ := List.getElem?_of_mem hp
  rw [List.getElem?_zip_eq_some] at hi
  obtain ⟨y, hy, e⟩ := h i p.1 (by rw [← Array.getElem?_toList]; exact hi.1)
  rw [hi.2] at hy
  cases hy
  exact e
theorem each_refs : ∀ {us : List Value} {ys : List (List Key × Addr × Value)}, PySem.W.EachIs (fun v (y : List Key × Addr × Value) => v = Value.ref y.2.1) us ys → Vals (ys.map fun y => V.ref y.2.1) us
  | _, _, .nil => .nil
  | _, _, .cons h t => by
    subst h
    exact .cons rfl (each_refs t)
/-- sorted(d), d a dict (untracked) whose keys are tuples of the written kinds -/
theorem sorted_dictH {d : Addr} {xs : List (List Key × Addr × Value)} {Q : VK} (hc : X.calm = true) (hu : X.A.units + 64 < cLine) (I : Inv X pins σ H s) (lo : (d == sysModules) = false) (hd : s.heap.DictOfH (tupleKind (mixKind X.prog X.w)) d xs) (hz : xs.length ≤ sizeLine)
    (hal : PySem.W.AllAlike ((xs.map (·.1)).map encT)) (hne : ∀ x ∈ xs, x.1 ≠ [])
    (q : ∀ ys : List (List Key × Addr × Value), ys = xs.mergeSort (PySem.W.dataLe false fun y => encT y.1) → ∀ p, H p = none → Q (.ref p) (upd H p (.lst (ys.map fun y => V.ref y.2.1)))) :
    wpAny (model X.prog X.w) X.A (call (.builtin "sorted") [.ref d]) (EP X pins σ Q) X.xe s := by
  have hh := I.ok.hd hc
  obtain ⟨es, ep, hr, hsz, hent⟩ := hd.raw
  have e0 : es.size ≤ sizeLine := by rw [hsz]; exact hz
  refine Calls.call_function_entry kind_sorted plain_sorted entry_sorted (args_sorted1 _) ?_
  unfold Builtin.«sorted»
  refine wpAny_bind (m := checkCount "sorted" 1 1 _) (wpAny_pure ?_)
  refine wpAny_bind (PySem.W.kdu_collect (A := X.A.in1) (KdlSrc.rawDict lo) hh hr e0 fun h' tk acc hk hacc => ?_)
  have hal2 : acc.size = xs.length := by rw [hacc.1, hsz]
  have hE : PySem.W.EachIs (fun v (y : List Key × Addr × Value) => v = Value.ref y.2.1) acc.toList xs := each_toList hal2 fun i v hv => by
    obtain ⟨hi, e⟩ := hacc.2 i v hv
    obtain ⟨y, hy, e2, _, _⟩ := hent i hi
    exact ⟨y, hy, e.trans e2⟩
  have I1 : Inv X pins σ H { s with heap := h', toks := tk } := I.kept hk
  have hzl : acc.toList.length ≤ sizeLine := by rw [Array.length_toList, hal2]; exact hz
  refine wpAny_bind (wpAny_newList ?_ hzl)
  have hoL : (h'.push (seqObj "list" acc.toList.toArray 0)).get? h'.objs.size = some (seqObj "list" acc.toList.toArray 0) := Heap.get?_push_size _ rfl
  have kp : ∀ b o, s.heap.get? b = some o → (h'.push (seqObj "list" acc.toList.toArray 0)).get? b = some o := fun b o e => Heap.get?_push_of_some _ (hk b o e)
  show wpAny _ _ _ _ _ { s with heap := h'.push (seqObj "list" acc.toList.toArray 0), toks := tk }
  obtain ⟨_, _, _, _, _, _, _, his, _⟩ := id hd
  have hR : PySem.W.EachIs (fun v (y : List Key × Addr × Value) => ∃ as, Reads (h'.push (seqObj "list" acc.toList.toArray 0)) v (encT y.1) as ∧ h'.objs.size ∉ as) acc.toList xs := by
    refine (PySem.W.each_mem hE).mono fun v y ⟨e, hy⟩ => ⟨[], ?_, by simp⟩
    subst e
    exact PyProof.Rows.Reads.keeps kp (tup_reads (his y hy))
  refine wpAny_bind (wpAny_holding ?_)
  refine PySem.W.list_sort_data (s := { s with heap := h'.push (seqObj "list" acc.toList.toArray 0), toks := tk }) (enc := fun y : List Key × Addr × Value => encT y.1) (bs := xs) hoL hE hR (by rw [List.map_map] at hal; exact hal) (.inl fun dd hdd => ?_) hz (fun y _ => ?_) fun out hlen ho => ?_
  · obtain ⟨y, hy, rfl⟩ := List.mem_map.mp hdd
    cases e : y.1 with
    | nil => exact absurd e (hne y hy)
    | cons k r => exact ⟨encK k, r.map encK, rfl⟩
  · have hdep : (encT y.1).depth = 1 := by
      have z : ∀ l : List Key, PyData.depthAll (l.map encK) = 0 := by
        intro l
        induction l with
        | nil => rfl
        | cons k r ih =>
          show PyData.depthAll (encK k :: r.map encK) = 0
          rw [PyData.depthAll, ih]
          cases k <;> rfl
      show PyData.depth (.tuple (y.1.map encK)) = 1
      rw [PyData.depth, z]
    rw [hdep]
    show X.A.units + 1 + 1 + 1 < cLine
    omega
  · obtain ⟨c, hc2⟩ := sortedHeap_at (vs := acc.toList) (out := out.toArray) hoL
    have hv := each_refs ho
    have hlen2 : ((xs.mergeSort (PySem.W.dataLe false fun y => encT y.1)).map fun y => V.ref y.2.1).length ≤ sizeLine := by
      rw [List.length_map, List.length_mergeSort]
      exact hz
    refine wpAny_pure ⟨_, rfl, .ref h'.objs.size, upd H h'.objs.size _, I1.laid (t' := tk) (fun b u e => ?_) (Nat.le_refl _) (show ObjOk X.prog X.w _ _ _ (.lst _) from ⟨hlen2, out, c, hv, hc2⟩), rfl, q _ rfl _ (I1.hok.fresh (Nat.le_refl _))⟩
    have hb : b < h'.objs.size := Heap.lt_size e
    exact (sortedHeap_old (Nat.ne_of_lt hb) (by rw [size_push']; exact Nat.lt_succ_of_lt hb)).trans (Heap.get?_push_of_some _ e)
end
end SWL
set_option Elab.async false
set_option linter.all false
set_option maxRecDepth 100000
set_option maxHeartbeats 4000000
namespace SWL
open PySem PySem.Spec PyProof.Rows L2
section
variable {X : Cx}
theorem vals_refs : ∀ {ps : List PairIn} {us : List Value}, Vals (ps.map fun p => V.ref p.at_) us → us = ps.map fun p => Value.ref p.at_
  | [], _, h => by cases h; rfl
  | p :: ps, _, h => by
    cases h with
    | cons h1 h2 =>
      rw [vals_refs h2]
      cases h1
      rfl
theorem pe_sortedDict {e : Expr} {te : TE} {p1 p2 p3 p4 : Pos} (hc : X.calm = true) (hu : X.A.units + 64 < cLine) (g1 : Gl X "sorted") (m1 : X.mg "sorted" = none) (g2 : Gl X "dict") (m2 : X.mg "dict" = none) (he : PE X e te)
    (hs : starEach [e] X.env = (false, eval e X.env) :: starEach [] X.env := by rfl) :
    PE X (.Call (.Name "sorted" p1) [.Call (.Name "dict" p2) [e] [] p3] [] p4) (fun σ H Q => te σ H fun v H1 => askSortedDict X.K v H1 Q) := by
  refine ⟨fun pins s σ H Q I h => wpAny_Call_Name_kw (ld_blt I g1 m1 (by decide +kernel : bootBuiltins "sorted" = some (.builtin "sorted")) (callWith_builtin1 ?_ rfl rfl))⟩
  show wpAny _ _ (spliced ((false, eval (.Call (.Name "dict" p2) [e] [] p3) X.env) :: backTo p4 (starEach [] X.env))) _ _ s
  let Q' : List V → Hp → Prop := fun vs H1 => match vs with | [v] => askSortedDict X.K v H1 Q | _ => False
  refine Calls.spliced_cons (wpAny_Call_Name_kw (ld_blt I g2 m2 (by decide +kernel : bootBuiltins "dict" = some (.type "dict")) (callWith_type1 (thn ((pa_cons he pa_nil hs).run p3 pins s σ H Q' I h) fun us s1 q => ?_) hs rfl)))
  obtain ⟨vs, H1, I1, rel, q⟩ := q
  obtain ⟨v0, rfl⟩ : ∃ v0, vs = [v0] := by
    cases vs with
    | nil => exact q.elim
    | cons v r => cases r with
      | nil => exact ⟨v, rfl⟩
      | cons _ _ => exact q.elim
  obtain ⟨a, ps, rfl, hl, hok, hal, hne, q⟩ := (show askSortedDict X.K v0 H1 Q from q)
  obtain ⟨u, rfl, ru⟩ := vals1 rel
  cases ru
  obtain ⟨hz0, its, n0, rv, ho⟩ := (show ObjOk X.prog X.w H1 s1.heap a (.lst _) from I1.hok _ _ hl)
  have hz : ps.length ≤ sizeLine := by rw [List.length_map] at hz0; exact hz0
  have eits := vals_refs rv
  obtain ⟨xs, hlen, hx⟩ := pairs_there I1 ps hok
  have hh := I1.ok.hd hc
  have hkeys : xs.map (·.1) = ps.map (·.key) := by
    refine List.ext_getElem? fun j => ?_
    rw [List.getElem?_map, List.getElem?_map]
    cases e : ps[j]? with
    | none =>
      have z : xs[j]? = none := List.getElem?_eq_none_iff.mpr (by rw [hlen]; exact List.getElem?_eq_none_iff.mp e)
      rw [z]
      rfl
    | some p =>
      obtain ⟨v, e2, _⟩ := hx j p e
      rw [e2]
      rfl
  let Ts : Nat → Addr := fun j => ((ps[j]?).map (·.at_)).getD 0
  let psv : List (Value × Value) := xs.map fun x => (Value.ref x.2.1, x.2.2)
  have hpsv : psv.length = ps.length := by rw [List.length_map, hlen]
  have at_j : ∀ (j : Nat) (k v : Value), psv[j]? = some (k, v) → ∃ p, ps[j]? = some p ∧ k = .ref p.key_at ∧ xs[j]? = some (p.key, p.key_at, v) ∧ PairAt s1.heap p.at_ k v := by
    intro j k v e
    rw [List.getElem?_map] at e
    cases e2 : xs[j]? with
    | none => rw [e2] at e; simp at e
    | some x =>
      have hj : j < ps.length := by
        rw [← hlen]
        exact (List.getElem?_eq_some_iff.mp e2).1
      obtain ⟨v', e3, pa, _⟩ := hx j _ (List.getElem?_eq_getElem hj)
      rw [e2] at e e3
      cases e3
      cases e
      exact ⟨_, List.getElem?_eq_getElem hj, rfl, rfl, pa⟩
  have hkt : ∀ x ∈ xs, IsTupleKey (mixKind X.prog X.w) s1.heap x.1 x.2.1 := fun x hxm => by
    obtain ⟨j, hj⟩ := List.getElem?_of_mem hxm
    have hj2 : j < ps.length := by
      rw [← hlen]
      exact (List.getElem?_eq_some_iff.mp hj).1
    obtain ⟨v', e3, _, t⟩ := hx j _ (List.getElem?_eq_getElem hj2)
    rw [hj] at e3
    cases e3
    exact t
  have hH : ∀ x ∈ xs, H1 x.2.1 = some (.tup (x.1.map kV)) := fun x hxm => by
    obtain ⟨j, hj⟩ := List.getElem?_of_mem hxm
    have hj2 : j < ps.length := by
      rw [← hlen]
      exact (List.getElem?_eq_some_iff.mp hj).1
    obtain ⟨v', e3, _, t⟩ := hx j _ (List.getElem?_eq_getElem hj2)
    rw [hj] at e3
    cases e3
    exact (hok _ (List.getElem_mem hj2)).2
  have hls : psv.length ≤ sizeLine := by rw [hpsv]; exact hz
  refine PySem.call_dict_pairsH (A := X.A) (s := s1) (knd := tupleKind (mixKind X.prog X.w)) (ps := xs) (PairArg.list a its.toArray Ts psv) hh ?room ⟨⟨_, _, ho, rfl, rfl, rfl⟩, ?items⟩ ?hc ?hst hls fun h' tk hD hk => ?fin
  case items =>
    refine ⟨?_, fun j k v e => ?_⟩
    · rw [List.size_toArray, eits, List.length_map, hpsv]
    · obtain ⟨p, e1, _, _, pa⟩ := at_j j k v e
      have eT : Ts j = p.at_ := by show ((ps[j]?).map (·.at_)).getD 0 = _; rw [e1]; rfl
      rw [eT]
      refine ⟨?_, pa⟩
      rw [List.getElem?_toArray, eits, List.getElem?_map, e1]
      rfl
  case hc =>
    refine ⟨by rw [hpsv, hlen], fun i key v e => ?_⟩
    obtain ⟨p, e1, ek, e3, pa⟩ := at_j i key v e
    exact ⟨_, _, e3, ek⟩
  case hst =>
    intro h2 hk2 x hxm
    obtain ⟨o, its2, n2, z1, z2, z3, z4⟩ := hkt x hxm
    exact ⟨o, its2, n2, hk2 _ _ (Nat.ne_of_lt (Heap.lt_size z1)) (by simp) z1, z2, z3, z4⟩
  case fin =>
    refine Calls.spliced_nil ?_
    have I2 : Inv X pins σ H1 { s1 with heap := h', toks := tk } := I1.kept fun b o e => hk b o (by simp) e
    have ek := storedAll_keys xs
    rw [hkeys] at ek
    have mem1 : ∀ y ∈ storedAllH [] xs, H1 y.2.1 = some (.tup (y.1.map kV)) := fun y hy => by
      rcases storedAll_mem xs [] hy with ⟨z, hz2, _, _⟩ | ⟨z, hz2, f1, f2⟩
      · simp at hz2
      · rw [← f1, ← f2]
        exact hH z hz2
    have hlen2 : (storedAllH [] xs).length ≤ sizeLine := by
      have := storedAllH_length xs []
      simp at this
      omega
    refine sorted_dictH (X := X) (pins := pins) (σ := σ) (H := H1) (xs := storedAllH [] xs) hc hu I2 (beq_eq_false_iff_ne.mpr (Nat.ne_of_gt I1.big)) hD hlen2 ?_ ?_ fun ys hys p hp => ?_
    · rw [ek]
      exact hal
    · intro y hy
      rcases storedAll_mem xs [] hy with ⟨z, hz2, _, _⟩ | ⟨z, hz2, f1, f2⟩
      · simp at hz2
      · rw [← f1]
        have zk : z.1 ∈ xs.map (·.1) := List.mem_map.mpr ⟨z, hz2, rfl⟩
        rw [hkeys] at zk
        obtain ⟨p, hp, e⟩ := List.mem_map.mp zk
        rw [← e]
        exact hne p hp
    · have e1 : (ys.map fun y => V.ref y.2.1) = ((ys.map fun y => (y.2.1, y.1)).map fun q => V.ref q.1) := by rw [List.map_map]; rfl
      rw [e1]
      refine q (ys.map fun y => (y.2.1, y.1)) (fun z hz2 => ?_) ?_ p hp
      · obtain ⟨y, hy, rfl⟩ := List.mem_map.mp hz2
        rw [hys] at hy
        exact mem1 y ((List.mergeSort_perm _ _).mem_iff.mp hy)
      · rw [List.map_map, ← ek, hys]
        exact PySem.W.sort_maps (fun y : List Key × Addr × Value => y.1) fun _ _ _ _ => rfl
  case room =>
    show X.A.units + 1 + 1 < cLine
    omega
end
end SWL
set_option Elab.async false
set_option linter.all false
set_option maxRecDepth 100000
set_option maxHeartbeats 4000000
namespace SWL
open PySem PySem.Spec PyProof.Rows L2
/-! try: body / except C as n: suite, the exception itself being kept beyond the suite -/
def Kept (cls : Value) (d : Option Addr) (a : Addr) : Heap → Prop := fun h => ∃ oe, h.get? a = some oe ∧ Zc cls d oe ∧ ∃ vs, oe.data = .fields vs
def wKeep (K : PySem.W.Frag) (c : Value) (n i : Nat) (ts : Addr → Value → Option Addr → TS) (D : Ends) : WX := fun cls d σ H =>
  PySem.W.exmOne K cls c = some true ∧ (σ.length = n → ∀ a, H a = none → ts a cls d { nx := fun σ' H' => H' a = none → D.nx (σ'.set i none) (upd H' a (.ext (Kept cls d a))), rt := fun _ _ => False, bk := fun _ _ => False, ct := fun _ _ => False } (σ.set i (some (.ref a))) H)
section
variable {X : Cx} {pins : List (Addr × Obj)} {σ : L2.St} {H : Hp} {s : Shared}
theorem seen {a : Addr} {o : HO} (I : Inv X pins σ H s) (hn : H a = none) (hL : a ≠ X.env.locals) (h0 : a ∉ X.ex → X.s_0.heap.get? a = none) (hc : ∀ x c, X.env.cells.lookup x = some c → c ≠ a) (hp : ∀ p ∈ X.pn ++ pins, p.1 ≠ a)
    (new : ObjOk X.prog X.w (upd H a o) s.heap a o) : Inv X pins σ (upd H a o) s := by
  have ne : ∀ {b u}, H b = some u → b ≠ a := fun e => ne_of_none e hn
  have up : ∀ {b u}, H b = some u → upd H a o b = some u := fun e => by rw [upd_ne (ne e)]; exact e
  refine ⟨I.ok, I.os, I.bare, ⟨I.base.keep, I.base.slot, fun b u e n hx => ?_, I.base.there, fun b xs e => up (I.base.tups b xs e), fun b u xs e => up (I.base.frzs b u xs e), fun b ps e => ?_⟩, I.loc, I.cell, ?_, fun x c e => ?_, fun p hq => ?_, fun b u e => ?_, I.len⟩
  · have nb : b ≠ a := fun z => by rw [z, h0 (z ▸ hx)] at e; cases e
    rw [upd_ne nb]
    exact I.base.free b u e n hx
  · obtain ⟨m, q⟩ := I.base.tbls b ps e
    exact ⟨m, up q⟩
  · rw [upd_ne hL.symm]
    exact I.free
  · rw [upd_ne (hc x c e)]
    exact I.freeC x c e
  · obtain ⟨q1, q2, q3⟩ := I.pin p hq
    exact ⟨q1, by rw [upd_ne (hp p hq)]; exact q2, q3⟩
  · by_cases hb : b = a
    · subst hb
      rw [upd_same] at e
      cases e
      exact new
    · rw [upd_ne hb] at e
      exact (I.hok b u e).stay (fun c v _ q => q) (fun c q => up q) fun c xs q => up q
/-- the pin of the suite, as one of ours -/
theorem mine {a : Addr} {oe : Obj} (I : Inv (X.suite a ((a, oe) :: (X.pn ++ pins))) [] σ H s) (ok : X.Ok) : Inv X ((a, oe) :: pins) σ H s := by
  refine ⟨ok, I.os, I.bare, I.base, I.loc, I.cell, I.free, I.freeC, fun p hp => I.pin p ?_, I.hok, I.len⟩
  show p ∈ ((a, oe) :: (X.pn ++ pins)) ++ []
  rcases List.mem_append.mp hp with h | h
  · simp [h]
  · rcases List.mem_cons.mp h with h | h <;> simp [h]
theorem unpin {q : Addr × Obj} (I : Inv X (q :: pins) σ H s) : Inv X pins σ H s :=
  ⟨I.ok, I.os, I.bare, I.base, I.loc, I.cell, I.free, I.freeC, fun p hp => I.pin p (by rcases List.mem_append.mp hp with h | h <;> simp [h]), I.hok, I.len⟩
end
section
variable {X : Cx} {x n : Str} {c : Value} {i : Nat} {body suite : List Stmt} {b₀ : Stmt} {np pos pos' : Pos} {tb : WX → TS} {ts : Addr → Value → Option Addr → TS}
theorem ps_try_keep (hs : X.stack = X.env :: X.outer) (hf : X.env.frame = some X.env.locals) (hN : X.N.Nodup) (hi : X.N[i]? = some n) (hln : X.env.kindOf n = some .local) (hc : Names X x c)
    (hb : ∀ (W : WX) (pn : List (Addr × Obj)) (xe : Value → Shared → Prop), Takes (X.tr pn xe) W → PassesOwn (model X.prog X.w) X.A X.env xe → PSs (X.tr pn xe) body (tb W))
    (hsu : ∀ (a : Addr) (oe : Obj) (cls : Value) (d : Option Addr) (pn : List (Addr × Obj)), Zc cls d oe → (∃ vs, oe.data = .fields vs) → PSs (X.suite a ((a, oe) :: pn)) (b₀ :: suite) (ts a cls d)) :
    PS X (.Try body [.ExceptHandler (some (.Name x np)) (some n) (b₀ :: suite) pos'] [] [] pos) (fun D σ H => tb (wKeep X.K c X.N.length i ts D) D σ H) := by
  constructor
  intro pins s σ H D I h
  have ok := I.ok
  have hfr : X.A.frames = some (X.env :: X.outer) := ok.frames.trans (congrArg some hs)
  have back : ∀ {f : Flow} {s1 : Shared} {pn xe}, SP (X.tr (X.pn ++ pins) xe) pn D f s1 → SP X pins D f s1 := by
    intro f s1 pn xe q
    cases f with
    | ret u => obtain ⟨v, σ', H', J, z⟩ := q; exact ⟨v, σ', H', J.ofTry ok, z⟩
    | next => obtain ⟨σ', H', J, z⟩ := q; exact ⟨σ', H', J.ofTry ok, z⟩
    | brk => obtain ⟨σ', H', J, z⟩ := q; exact ⟨σ', H', J.ofTry ok, z⟩
    | cont => obtain ⟨σ', H', J, z⟩ := q; exact ⟨σ', H', J.ofTry ok, z⟩
  let hand : Value → Shared → Prop := fun e s₁ => wpAny (model X.prog X.w) X.A (noteFrame e X.env) (fun _ s₂ => wpAny (model X.prog X.w) X.A (setFlight e none) (fun _ s₃ =>
    wpAny (model X.prog X.w) X.A (handleBy e X.env [.ExceptHandler (some (.Name x np)) (some n) (b₀ :: suite) pos']) (SP X pins D) X.xe s₃) X.xe s₂) X.xe s₁
  have take : Takes (X.tr (X.pn ++ pins) hand) (wKeep X.K c X.N.length i ts D) := by
    intro u s' xx
    obtain ⟨a, B, sI, pins', σ', H', cls, d, rfl, J0, nb, up, sky, na, os, ag, hex, hts⟩ := xx
    have J := J0.ofTry ok
    have nb' : ∀ b o, sI.heap.get? b = some o → b ∉ frs (X.env :: X.outer) → B.get? b = some o := fun b o e z => nb b o e (by rw [show (X.tr (X.pn ++ pins) hand).stack = X.env :: X.outer from hs]; exact z)
    have sky' : Sky B (X.env :: X.outer) a (Zc cls d) X.env.locals s'.heap := by
      rw [← hs]
      exact sky
    show wpAny (model X.prog X.w) X.A (noteFrame (.ref a) X.env) _ _ _
    refine Sky.land Zc.steady hfr hf sky' fun h3 fl3 up3 => ?_
    obtain ⟨o3, v3, g3, z3, d3⟩ := fl3.there
    -- the exception's place is no frame's, and new
    have nfr : a ∉ frs (X.env :: X.outer) := fun hm => by
      obtain ⟨_, o', e', q⟩ := fl3.2.2.1.mem hm
      rw [g3] at e'
      cases e'
      exact q _ d3
    have nL : a ≠ X.env.locals := fun z => nfr (List.mem_filterMap.mpr ⟨X.env, List.mem_cons_self, hf.trans (congrArg some z.symm)⟩)
    have nF : a ∉ X.fs := fun hm => by
      obtain ⟨e, he, q⟩ := List.mem_filterMap.mp hm
      exact nfr (List.mem_filterMap.mpr ⟨e, List.mem_cons_of_mem _ he, q⟩)
    have fresh : ∀ o, sI.heap.get? a ≠ some o := fun o e => by
      have q := nb' a o e nfr
      rw [fl3.2.1] at q
      cases q
    have new0 : a ∉ X.ex → X.s_0.heap.get? a = none := by
      intro hx
      cases e : X.s_0.heap.get? a with
      | none => rfl
      | some o =>
        obtain ⟨o', e'⟩ := J.base.there a o e hx
        exact absurd e' (fresh o')
    have newC : ∀ y c, X.env.cells.lookup y = some c → c ≠ a := fun y c e z => by
      obtain ⟨v, oc, q, _⟩ := J.cell y c e
      rw [z] at q
      exact fresh _ q
    have newP : ∀ p ∈ X.pn ++ pins, p.1 ≠ a := fun p hp z => by
      have q := (J.pin p hp).1
      rw [z] at q
      exact fresh _ q
    have J3 : Inv X pins σ' H' { s' with heap := h3 } := J.landed nb fl3.1 (up.trans up3) os ag
    have S3 := J3.suite g3 d3 na nL nF
    refine wpAny_handleBy_cons (codeAny_handlers_test ?_) (by intro q; cases q)
    have LM := PySem.W.exm_one (M := model X.prog X.w) (J3.kIn) (show PySem.W.Looks (model X.prog X.w) h3 (typeOf (.ref a)) cls from fun A Q E s k q => wpAny_typeOf_ref (k _ _ g3) (by rw [z3.1]; exact q)) hex
    have test : ∀ {Q : Value → Shared → Prop} {E : Value → Shared → Prop}, Q c { s' with heap := h3 } → wpAny (model X.prog X.w) (X.A.mark (some (.ref a))) (eval (.Name x np) X.env) Q E { s' with heap := h3 } := by
      intro Q E q
      obtain ⟨hg, hdbg, hm | ⟨hm, hv, hnn⟩⟩ := hc
      · exact ld_glob (X := X.suite a ((a, o3) :: (X.pn ++ pins))) S3 hg hm q hdbg
      · exact ld_blt (X := X.suite a ((a, o3) :: (X.pn ++ pins))) S3 hg hm hv q hnn hdbg
    refine test (LM.here (codeAny_handlers_suite_as ?_))
    refine HandSPX.lands_againZ fl3 fun h4 fl4 up4 => ?_
    have J4 : Inv X pins σ' H' { s' with heap := h4 } := J.landed nb fl4.1 ((up.trans up3).trans up4) os ag
    obtain ⟨o4, v4, g4, z4, d4⟩ := fl4.there
    refine store_ok (X := X.suite a ((a, o4) :: (X.pn ++ pins))) (v := .ref a) (J4.suite g4 d4 na nL nF) hN hi (.inl hln) rfl (fun s5 S5 => ?_) (.inr hln)
    refine wpAny_mono ((hsu a o4 cls d (X.pn ++ pins) z4 ⟨_, d4⟩).run [] s5 _ H' _ S5 (hts J.len a na)) (fun f s6 q => ?_) fun _ _ z => z.elim
    cases f with
    | next =>
      obtain ⟨σ6, H6, S6, q6⟩ := q
      refine gone_ok (mine S6 ok) hN hi hln fun s7 J7 => ?_
      have hn : H6 a = none := (J7.pin (a, o4) (List.mem_append_right _ List.mem_cons_self)).2.1
      have g7 := (J7.pin (a, o4) (List.mem_append_right _ List.mem_cons_self)).1
      exact ⟨_, _, seen (unpin J7) hn nL new0 newC newP (show ObjOk X.prog X.w _ _ _ (.ext (Kept cls d a)) from ⟨⟨o4, g7, z4, _, d4⟩, ⟨_, g7⟩, fun h1 h2 ⟨oe, e1, e2⟩ hk => ⟨oe, hk _ e1, e2⟩⟩), q6 hn⟩
    | brk =>
      obtain ⟨_, _, _, z⟩ := q
      exact z.elim
    | cont =>
      obtain ⟨_, _, _, z⟩ := q
      exact z.elim
    | ret u =>
      obtain ⟨_, _, _, _, _, z⟩ := q
      exact z.elim
  refine wpAny_Try_except (wpAny_mono ((hb _ (X.pn ++ pins) hand take PassesOwn.looking).run [] s σ H D (I.toTry _) h) (fun f s1 q => ?_) fun e s1 he => he)
  have q' : SP X pins D f s1 := back q
  cases f with
  | next => exact wpAny_execs_nil q'
  | ret u => exact q'
  | brk => exact q'
  | cont => exact q'
/-- isinstance(e, c), e an exception that was kept -/
def rIsKept (K : PySem.W.Frag) : List V → Hp → VK → Prop := fun xs H Q => ∃ (a D : Addr) (c : V) (cv : Value) (b : Bool), xs = [.ref a, c] ∧ H a = some (.ext (Kept (.ref D) none a)) ∧ ExcC K D ∧ (∀ u, RelV c u → u = cv) ∧ PySem.W.kitOne K (.ref D) cv = some b ∧ Q (.bl b) H
theorem call_isKept : CallR X (.builtin "isinstance") (rIsKept X.K) := by
  intro pins s σ H xs us Q I r h
  obtain ⟨a, D, c, cv, b, rfl, ha, C, hcv, e, q⟩ := h
  cases r with
  | cons rx rr =>
    cases rr with
    | cons rt rr =>
      cases rr
      cases rx
      cases hcv _ rt
      obtain ⟨⟨oe, hget, hz, vs, hv⟩, _, _⟩ := (show ObjOk X.prog X.w H s.heap a (.ext (Kept (.ref D) none a)) from I.hok _ _ ha)
      have J : PySem.W.InstAt s.heap a oe D none := by
        obtain ⟨oc, od, oda, osl⟩ := oe
        obtain ⟨h1, h2⟩ := hz
        dsimp only at h1 h2 hv
        subst h1 h2 hv
        exact ⟨hget, rfl, rfl, trivial⟩
      refine PySem.W.kia_one (PySem.W.handS_kitx_exc C.hg C.hk C.hs C.hd C.ha C.hn C.ht C.hm) I.kIn J e (fun z => nomatch z) fun tk => ?_
      exact ⟨.bl b, H, I.kept (t' := tk) fun _ _ z => z, rfl, q⟩
end
end SWL
set_option Elab.async false
set_option linter.all false
set_option maxRecDepth 100000
set_option maxHeartbeats 4000000
namespace SWL
open PySem PySem.Spec PyProof.Rows L2 LamX
/-! the def that calls what it got and hands back the exception that it caught -/
def TCaught (K : PySem.W.Frag) (CS : Addr) : (XK → Hp → VK → Prop) → Hp → VK → Prop := fun tl H Q =>
  tl (fun cls d H' => PySem.W.exmOne K cls (.ref CS) = some true ∧ ∀ a, H' a = none → Q (.ref a) (upd H' a (.ext (Kept cls d a)))) H (fun _ H' => ∃ v, (some (some V.non) : Option (Option V)) = some (some v) ∧ Q v H')
section
variable {X : Cx}
theorem caught_gives {x a fnd err en q : Str} {sg : Scope} {g CS : Addr} {cdg : Value} {p1 p2 p3 p4 p5 p6 p7 p8 p9 p10 p11 p12 p13 p14 : Pos} {j : Nat}
    (hge : sg.names.lookup en = some .globalImplicit) (hme : X.mg en = some (.ref CS)) (hde : (en == ("__debug__" : Str)) = false)
    (hlf : sg.names.lookup fnd = some .local) (hle : sg.names.lookup err = some .local)
    (hN : [a, fnd, err].Nodup) (df : (fnd == ("__debug__" : Str)) = false) (cf : (fnd == ("__classdict__" : Str)) = false) (de : (err == ("__debug__" : Str)) = false) (ce : (err == ("__classdict__" : Str)) = false) :
    GivesTo X [a, fnd, err] x sg g cdg [.Assign [.Name fnd p1] (.Constant .none j p2) p3, .Try [.Expr (.Call (.Name a p4) [] [] p5) p6] [.ExceptHandler (some (.Name en p7)) (some err) [.Assign [.Name fnd p8] (.Name err p9) p10] p11] [] [] p12, .Return (some (.Name fnd p13)) p14] a q (TCaught X.K CS) := by
  intro f c' s H Q tl act hc h
  have hgl : Gl (cxOf C8.CX0 X.prog X.w X.K X.mg X.base [a, fnd, err] x sg g cdg X.A X.stack s H C8.E0).nox en := hge
  have la : Loc sg fnd := .inl hlf
  have le : Loc sg err := .inl hle
  refine ⟨_, pss_cons (ps_set (X := (cxOf C8.CX0 X.prog X.w X.K X.mg X.base [a, fnd, err] x sg g cdg X.A X.stack s H C8.E0).nox) (i := 1) hN rfl la pe_non (hf := .inr hlf))
    (pss_cons (ps_try_keep (X := (cxOf C8.CX0 X.prog X.w X.K X.mg X.base [a, fnd, err] x sg g cdg X.A X.stack s H C8.E0).nox) (c := .ref CS) (i := 2)
      (tb := fun W D σ H => ∃ Ech : XK, (∀ cls d σ' H', Ech cls d H' → W cls d σ' H') ∧ σ[0]? = some (some (.ref f)) ∧ H c' = some (CodeO c' q) ∧ tl Ech H fun _ H' => D.nx σ H')
      rfl rfl hN rfl hle ⟨hgl, hde, .inl hme⟩ (fun W pn xe tk _ => ?_) (fun a' oe cls d pn _ _ => pss_one (ps_set (i := 1) hN rfl la (pe_var (i := 2) rfl (.inl hle) de ce) (hf := .inr hlf))))
    (pss_one (ps_ret (pe_var (i := 1) rfl (.inl hlf) df cf)))), ?_⟩
  · refine ⟨fun pins s' σ H' D I h' => ?_⟩
    obtain ⟨Ech, hW, h1, h2, h3⟩ := h'
    have hp := act W pn xe Ech p4 p5 tk hW
    exact (pss_one (ps_expr (pos := p6) hp (by rfl))).run pins s' σ H' D I ⟨h1, h2, h3⟩
  · refine ⟨fun cls d H' => PySem.W.exmOne X.K cls (.ref CS) = some true ∧ ∀ a, H' a = none → Q (.ref a) (upd H' a (.ext (Kept cls d a))), fun cls d σ' H' ⟨e1, e2⟩ => ⟨e1, fun hl a' na => ?_⟩, rfl, hc, h⟩
    obtain ⟨s0, s1, s2, rfl⟩ : ∃ s0 s1 s2, σ' = [s0, s1, s2] := by
      match σ', hl with
      | [x, y, z], _ => exact ⟨x, y, z, rfl⟩
    exact ⟨_, rfl, fun na' => ⟨_, rfl, e2 a' na'⟩⟩
end
end SWL
set_option Elab.async false
set_option linter.all false
set_option maxRecDepth 100000
set_option maxHeartbeats 4000000
namespace SWL
open PySem PySem.Spec PyProof.Rows L2 LamX
/-! defs that ask that no guard is in hand (for repr): their promises, their calls, and the end of a law row with them -/
structure FnG (P : Program) (w : World) (K : PySem.W.Frag) (mg : Str → Option Value) (base : Heap) (k : Nat) (f : Addr) (fd : FuncData) (ps : List Str) (sp : Sp) : Prop where
  len : ∀ vs H Q E, sp vs H Q E → vs.length = ps.length
  run : ∀ (A : Around) (outer : List Env) (s : Shared) (H : Hp) (args : Args) (us : List Value) (vs : List V) (Q : VK) (E : XK), A.guards = some [] → Room k A → Env0 P w K mg base A outer s H → BindsTo s fd args (ps.zip us) → Vals vs us → sp vs H Q E →
    codeAny (model P w) A (.call (.ref f) args) (CR CX0 outer P w H s Q E) s
theorem guards_deeper {A : Around} (env : Env) (h : A.guards = some []) : (A.deeper env).guards = some [] := h
section
variable {P : Program} {w : World} {K : PySem.W.Frag} {mg : Str → Option Value} {base : Heap}
theorem fng_ok {x qual : Str} {st : Stmt} {f : Addr} {fd : FuncData} {N ps : List Str} {k : Nat} {sp : Sp} (F : L2.Fun K x qual st f fd) (S : FnScope N ps (defScope st)) (len : ∀ vs H Q E, sp vs H Q E → vs.length = ps.length)
    (hbody : ∀ (cdv : Value) (A : Around) (outer : List Env) (s : Shared) (H : Hp) (vs : List V) (Q : VK) (E : XK), A.guards = some [] → PySem.W.codeIn K cdv qual = true → Room k (A.deeper (envOfC qual (defScope st) s.heap.objs.size f cdv)) → sp vs H Q E →
      ∃ t, PSs (cxOf CX0 P w K mg base N qual (defScope st) f cdv A outer s H E).nox (defBody st) t ∧ t { nx := fun _ H' => Q .non H', rt := Q } (L2.start N vs) H) : FnG P w K mg base (k + 1) f fd ps sp := by
  obtain ⟨oc, od, kV, doc, pm, an, cdv, ct, osl, rfl, lk, hcd⟩ := F.ex
  refine ⟨len, fun A outer s H args us vs Q E gA hr e0 hb r hsp => ?_⟩
  refine run_ofS lk hcd S hr e0 hb r (len _ _ _ _ hsp) fun hr2 => ?_
  obtain ⟨t, h, q⟩ := hbody cdv A outer s H vs Q E gA hcd hr2 hsp
  exact ⟨t, h.nox, q⟩
end
section
variable {X : Cx} {k : Nat} {f : Addr} {fd : FuncData} {ps : List Str} {sp : Sp} {E : XK} {x : Str} {p pos : Pos} {e : Expr} {es : List Expr} {t : TA}
theorem pe_callG (gd : X.A.guards = some []) (F : FnG X.prog X.w X.K X.mg X.base k f fd ps sp) (hr : Room k X.A) (hg : Gl X x) (hm : X.mg x = some (.ref f)) (hk : PySem.W.keepIn X.K (.ref f) = true) (hb : Binds X.K fd ps [])
    (ha : PA X (e :: es) t) (hdb : (x == ("__debug__" : Str)) = false := by decide) (he : starEach (e :: es) X.env = (false, eval e X.env) :: starEach es X.env := by rfl) (hpl : (backTo pos (starEach es X.env)).any (·.1) = false := by rfl) :
    PE X (.Call (.Name x p) (e :: es) [] pos) (tCall sp [] E0 t) := by
  constructor
  intro pins s σ H Q I h
  refine wpAny_Call_Name_kw (ld_glob I hg hm (PySem.W.callWith_K (h₀ := X.base) I.ok.mod.kin hk (thn (ha.run pos pins s σ H _ I h) fun us s1 ⟨vs, H1, I1, r, q⟩ => ⟨I1.kIn, ?_⟩) he hpl) hdb)
  have q : sp vs H1 Q E0 := by
    have z : sp (vs ++ []) H1 Q E0 := q
    rw [List.append_nil] at z
    exact z
  have hl : us.length = ps.length := r.length.symm.trans (F.len _ _ _ _ q)
  have hb1 := hb s1 us I1.kIn (by rw [List.append_nil]; exact hl)
  rw [List.append_nil] at hb1
  refine wpAny_call (codeAny_mono (F.run X.A X.stack s1 H1 ⟨us, []⟩ us vs Q E0 gd hr I1.env0 hb1 r q) fun r s' hq => ?_)
  match r, hq with
  | .error _, z => exact False.elim z
  | .ok (.ret u), z => exact I1.after z
  | .ok .next, z => exact False.elim z
  | .ok .brk, z => exact False.elim z
  | .ok .cont, z => exact False.elim z
end
theorem vals_rev : ∀ {xs : List V} {us : List Value}, Vals xs us → Vals xs.reverse us.reverse
  | _, _, .nil => .nil
  | _, _, .cons h t => by
    rw [List.reverse_cons, List.reverse_cons]
    exact (vals_rev t).append (.cons h .nil)
/-! the end -/
/-- what is tracked at the start: the tables, the script -/
def hp0 (T : List Addr) (a : Addr) (own : Bool) (o : Obj) (xs : List V) : Hp := fun b => if b ∈ T then some (.tbl #[]) else if b = a ∧ own = true then some (.frz o (.lst xs)) else none
theorem hp0_tab {T : List Addr} {a : Addr} {own : Bool} {o : Obj} {xs : List V} {b : Addr} (h : b ∈ T) : hp0 T a own o xs b = some (.tbl #[]) := if_pos h
theorem hp0_cases {T : List Addr} {a : Addr} {own : Bool} {o : Obj} {xs : List V} (b : Addr) : (b ∈ T ∧ hp0 T a own o xs b = some (.tbl #[])) ∨ (b ∉ T ∧ b = a ∧ own = true ∧ hp0 T a own o xs b = some (.frz o (.lst xs))) ∨ (b ∉ T ∧ hp0 T a own o xs b = none) := by
  by_cases h : b ∈ T
  · exact .inl ⟨h, if_pos h⟩
  · by_cases h2 : b = a ∧ own = true
    · exact .inr (.inl ⟨h, h2.1, h2.2, (if_neg h).trans (if_pos h2)⟩)
    · exact .inr (.inr ⟨h, (if_neg h).trans (if_neg h2)⟩)
/-- what is known of the law's promise at the head's heap -/
def LawG (l : PySem.W.OpenLaw) (w : World) (K : PySem.W.Frag) (k n : Nat) (x : Str) (mg : Str → Option Value) (fa : Addr) (h : Heap) : Prop :=
  ∃ (fd : FuncData) (cs : List (Addr × Addr)) (sp : Sp), (∀ p ∈ cs, h.get? p.2 = some { cls := .none, data := .fields #[] }) ∧ (∀ p ∈ cs, K.lookup p.2 = none) ∧ (∀ p ∈ cs, PySem.W.CodeHd h p.1 p.2) ∧ (∀ (s : Shared) (u : Value), BindsTo s fd ⟨[u], []⟩ [(x, u)]) ∧
    (∀ (H : Hp) (a : Addr) (ns : List Int), ns.length ≤ n → (∀ z ∈ ns, Builtin.Int.intBits z ≤ 1048576) → (∀ p ∈ cs, H p.2 = some (.tbl #[])) → SqL K H a (ns.map V.int) → sp [.ref a] H (fun v _ => v = .bl true) fun _ _ _ => False) ∧
    ∀ base : Heap, K.In base → base.Ns mainGlobals mg → (∀ p ∈ cs, TabB base mg p.1 p.2) → FnG l.prog w K mg base k fa fd [x] sp
theorem law_callG {P : Program} {w : World} {K : PySem.W.Frag} {mg mb : Str → Option Value} {k : Nat} {fa a : Addr} {cs : List (Addr × Addr)} {fd : FuncData} {x : Str} {sp : Sp} {s : Shared} {vs : List Value} {ns : List Int}
    (KX : K.In s.heap) (hns : s.heap.Ns mainGlobals mg) (hb : s.heap.Ns builtinsNs mb) (hbb : ∀ x : Str, x ≠ "__name__" → mb x = bootBuiltins x) (hlim : s.heap.NoLimit) (hg : s.gens = #[])
    (hT : ∀ p ∈ cs, s.heap.get? p.2 = some { cls := .none, data := .fields #[] }) (nT : ∀ p ∈ cs, K.lookup p.2 = none) (C : ∀ p ∈ cs, PySem.W.CodeHd s.heap p.1 p.2)
    (hbm : ∃ (bm : Addr) (ob : Obj), mg "__builtins__" = some (.ref bm) ∧ bm ≠ builtinsNs ∧ s.heap.get? bm = some ob ∧ ob.cls = .type "module" ∧ ob.dict = some builtinsNs ∧ ob.data = .plain)
    (ha : s.heap.get? a = some { cls := .type "list", data := .seq vs.toArray }) (hi : IntsAre vs ns) (hl : ns.length ≤ sizeLine) (hr : Room k callerA)
    (F : ∀ base : Heap, K.In base → base.Ns mainGlobals mg → (∀ p ∈ cs, TabB base mg p.1 p.2) → FnG P w K mg base k fa fd [x] sp) (hbind : ∀ (s : Shared) (u : Value), BindsTo s fd ⟨[u], []⟩ [(x, u)])
    (hsp : ∀ H : Hp, (∀ p ∈ cs, H p.2 = some (.tbl #[])) → SqL K H a (ns.map V.int) → sp [.ref a] H (fun v _ => v = .bl true) fun _ _ _ => False) :
    codeAny (model P w) callerA (.call (.ref fa) ⟨[.ref a], []⟩) (fun r s' => r = .ok (.ret (.bool true)) ∧ OldK s.heap s'.heap ∧ s'.os = s.os ∧ AllBare s'.gens) s := by
  generalize hTs : cs.map (·.2) = T
  have inT : ∀ {p}, p ∈ cs → p.2 ∈ T := fun hp => by rw [← hTs]; exact List.mem_map.mpr ⟨_, hp, rfl⟩
  have ofT : ∀ {b}, b ∈ T → ∃ p ∈ cs, p.2 = b := fun hb => by rw [← hTs] at hb; exact List.mem_map.mp hb
  have atT : ∀ {b}, b ∈ T → s.heap.get? b = some { cls := .none, data := .fields #[] } := fun hb => by
    obtain ⟨p, hp, e⟩ := ofT hb
    rw [← e]
    exact hT p hp
  let os : Obj := { cls := .type "list", data := .seq vs.toArray }
  let own : Bool := (K.lookup a).isNone
  let H : Hp := hp0 T a own os (ns.map V.int)
  have aT : a ∉ T := fun z => by
    have q := (atT z).symm.trans ha
    cases q
  have rv := vals_ints hi
  have hHT : ∀ p ∈ cs, H p.2 = some (.tbl #[]) := fun p hp => hp0_tab (inT hp)
  have seq : SqL K H a (ns.map V.int) := by
    cases e : K.lookup a with
    | some o =>
      have z := (KX a o e).symm.trans ha
      cases z
      exact .inr ⟨_, vs.toArray, _, e, rfl, rfl, rfl, by rw [List.size_toArray, hi.length]; exact hl, by simpa using rv⟩
    | none =>
      have hown : own = true := by show (K.lookup a).isNone = true; rw [e]; rfl
      exact .inl (.inr ⟨os, (if_neg aT).trans (if_pos ⟨rfl, hown⟩)⟩)
  have hok : HOk P w H s.heap := fun b u e => by
    rcases hp0_cases (T := T) (a := a) (own := own) (o := os) (xs := ns.map V.int) b with ⟨h1, h2⟩ | ⟨_, rfl, _, h2⟩ | ⟨_, h2⟩
    · cases (show H b = some (.tbl #[]) from h2).symm.trans e
      exact atT h1
    · cases (show H b = _ from h2).symm.trans e
      exact ⟨ha, by rw [List.length_map]; exact hl, vs, _, rv, ha⟩
    · cases (show H b = none from h2).symm.trans e
  -- what is no list and no empty table is untracked
  have un0 : ∀ {b : Addr} {o : Obj}, s.heap.get? b = some o → (∀ vs n, o.data ≠ .seq vs n) → o.data ≠ .fields #[] → H b = none := fun {b o} e h1 h2 => by
    rcases hp0_cases (T := T) (a := a) (own := own) (o := os) (xs := ns.map V.int) b with ⟨q1, _⟩ | ⟨_, rfl, _, _⟩ | ⟨_, q⟩
    · cases e.symm.trans (atT q1)
      exact absurd rfl h2
    · cases e.symm.trans ha
      exact absurd rfl (h1 _ _)
    · exact q
  have hid : ∀ {b o}, s.heap.get? b = some o → H b = none → (hidT s.heap H).get? b = some o := fun e n => hidT_get e n
  have hidNs : ∀ {b m}, s.heap.Ns b m → (hidT s.heap H).Ns b m := fun ⟨o, es, ep, e, d, r⟩ => ⟨o, es, ep, hid e (un0 e (fun _ _ z => by rw [d] at z; cases z) fun z => by rw [d] at z; cases z), d, r⟩
  have hKb : K.In (hidT s.heap H) := fun b o e => hid (KX b o e) (by
    rcases hp0_cases (T := T) (a := a) (own := own) (o := os) (xs := ns.map V.int) b with ⟨q1, _⟩ | ⟨_, rfl, q2, _⟩ | ⟨_, q⟩
    · obtain ⟨p, hp, rfl⟩ := ofT q1
      cases (nT p hp).symm.trans e
    · have q3 : (K.lookup b).isNone = true := q2
      rw [e] at q3
      cases q3
    · exact q)
  have hM : L2.Mod K mg (hidT s.heap H) := by
    obtain ⟨mc, h1, h2⟩ := hlim
    exact ⟨hKb, hidNs hns, ⟨mb, hidNs hb, hbb⟩, mc, hidNs h1, h2⟩
  have TB : ∀ p ∈ cs, TabB (hidT s.heap H) mg p.1 p.2 := fun p hp => by
    have tp := hT p hp
    refine ⟨?_, ?_, fun z => ?_⟩
    · obtain ⟨o, us, file, tf, flags, tg, inF, text, tt, e1, r1, r2, r3, rest⟩ := C p hp
      refine ⟨o, us, file, tf, flags, tg, inF, text, tt, hid e1 (un0 e1 (fun _ _ z => by rw [r2] at z; cases z) fun z => ?_), r1, r2, r3, rest⟩
      rw [r2] at z
      cases z
      simp at r3
    · obtain ⟨bm, ob, b1, b2, b3, b4, b5, b6⟩ := hbm
      refine ⟨bm, ob, b1, b2, fun q => ?_, fun q => ?_, hid b3 (un0 b3 (fun _ _ z => by rw [b6] at z; cases z) fun z => by rw [b6] at z; cases z), b4, b5, b6⟩
      · obtain ⟨o, es, ep, e, hd, _⟩ := hns
        rw [q] at b3
        cases e.symm.trans b3
        cases hd.symm.trans b6
      · rw [q] at b3
        cases tp.symm.trans b3
        cases b6
    · obtain ⟨o, es, ep, e, hd, _⟩ := hns
      rw [z] at e
      cases tp.symm.trans e
      cases hd
  have e0 : Env0 P w K mg (hidT s.heap H) callerA [] s H := ⟨rfl, hM, fun b o e => of_hidT e, Nat.le_of_eq (hidT_size _ _), trivial, fun b hb => absurd (show b ∈ ([] : List Addr) from hb) (by simp), hok, .of_eq hg⟩
  refine codeAny_mono ((F _ hKb (hidNs hns) TB).run callerA [] s H ⟨[.ref a], []⟩ [.ref a] [.ref a] _ _ rfl hr e0 (hbind s (.ref a)) (.cons rfl .nil) (hsp H hHT seq)) fun r s' h => ?_
  match r, h with
  | .error _, z => exact False.elim z
  | .ok .next, z => exact False.elim z
  | .ok .brk, z => exact False.elim z
  | .ok .cont, z => exact False.elim z
  | .ok (.ret u), z =>
    obtain ⟨v, H', eos, bare, un, hok', rv', q⟩ := z
    cases (show v = .bl true from q)
    cases (show u = Value.bool true from rv')
    have same : ∀ b o, b ∉ T → s.heap.get? b = some o → s'.heap.get? b = some o := fun b o nb e => by
      rcases hp0_cases (T := T) (a := a) (own := own) (o := os) (xs := ns.map V.int) b with ⟨q1, _⟩ | ⟨_, rfl, _, q1⟩ | ⟨_, q1⟩
      · exact absurd q1 nb
      · have z2 := (hok' b _ (un.frzs b _ _ q1)).1
        cases e.symm.trans ha
        exact z2
      · exact un.keep b o e q1 (fun z => absurd (show b ∈ ([] : List Addr) from z) (by simp)) (by simp)
    have grown : ∀ p ∈ cs, ∃ more : Array Value, s'.heap.get? p.2 = some { cls := .none, data := .fields more } := fun p hp => by
      obtain ⟨more, z⟩ := un.tbls p.2 #[] (hHT p hp)
      exact ⟨_, hok' p.2 _ z⟩
    refine ⟨rfl, ⟨fun b o e => ?_, fun b o e => ?_⟩, eos, bare⟩
    · by_cases hb : b ∈ T
      · obtain ⟨p, hp, rfl⟩ := ofT hb
        obtain ⟨more, hm⟩ := grown p hp
        cases e.symm.trans (hT p hp)
        exact .inr (.inl ⟨((C p hp).tab (hT p hp)).isCodeTable, rfl, #[], more, rfl, by rw [Array.empty_append]; exact hm⟩)
      · exact .inl (same b o hb e)
    · by_cases hb : b ∈ T
      · obtain ⟨p, hp, rfl⟩ := ofT hb
        obtain ⟨more, hm⟩ := grown p hp
        exact ⟨_, hm⟩
      · exact ⟨o, same b o hb e⟩
theorem walk_ofG {l : PySem.W.OpenLaw} {n k : Nat} {q : Program} {loose : List Str} {XP : (Str → Option Value) → Heap → Prop} {YP : World → Heap → Prop} {d : DefRec} {K : Params → PySem.W.Frag} {x : Str}
    (hn : l.most = some n) (hn2 : n ≤ sizeLine) (hdf : d.params.defaults = []) (hr : Room k callerA) (hY : ∀ (w : World) (h : Heap), YP w h → (K w.params).In h)
    (F : ∀ (w : World) (mg : Str → Option Value) (fa : Addr) (h : Heap) (lo : List Str) (mean : ExcName → Option Value) (mb : Str → Option Value), Top q lo mean mg mb h → YP w h → (K w.params).In h → h.Ns mainGlobals mg → mg d.name = some (.ref fa) → LawG l w (K w.params) k n x mg fa h) :
    PySem.W.WalkO q loose XP YP l.row.toRowW d [] (fun f vs => PySem.call f vs) := by
  refine Att.attach_callB hn hdf fun w s₀ s₁ mg mb fa o pm cd doc a vs ns G Y ho hd hcd hmg hobj hints hlen hbits hg => ?_
  obtain ⟨fd, cs, sp, hT, nT, C, hb, hsp, hF⟩ := F w mg fa _ _ _ _ G.T Y (hY w _ Y) G.T.g hmg
  exact law_callG (hY w _ Y) G.T.g G.T.b G.T.builtins G.T.nolimit hg hT nT C G.T.bmain hobj hints (Nat.le_trans hlen hn2) hr hF hb fun H hH hS => hsp H a ns hlen hbits hH hS
end SWL
set_option Elab.async false
set_option linter.all false
set_option maxRecDepth 100000
set_option maxHeartbeats 4000000
namespace SWL
open PySem PySem.Spec PyProof.Rows L2 LamX
/-! f(k = v, ..) without a positional value; comprehensions whose turns only grow the heap -/
section
variable {X : Cx} {CX : CXT} {k : Nat} {f : Addr} {fd : FuncData} {ps ks : List Str} {sp : Sp} {E : XK} {x : Str} {p pos : Pos} {kws : List Keyword} {tk : TA} {g : List Value → List Value → List Value} {gV : List V → List V → List V}
def tKw (sp : Sp) (gV : List V → List V → List V) (E : XK) (tk : TA) : TE := fun σ H Q => tk σ H fun zs H2 => sp (gV [] zs) H2 Q E
theorem pe_kwCall (F : FnOk X.prog X.w X.K X.mg X.base CX k f fd ps sp) (hr : Room k X.A) (hg : Gl X x) (hm : X.mg x = some (.ref f)) (hk : PySem.W.keepIn X.K (.ref f) = true) (hb : KBinds X.K fd ps ks g gV) (hx : Passes CX X E)
    (hkw : PK X kws tk) (hall : (backToKw pos (keywordEach kws X.env)).all (·.1.isSome) = true := by rfl) (hks : (backToKw pos (keywordEach kws X.env)).filterMap (·.1) = ks := by rfl)
    (hdb : (x == ("__debug__" : Str)) = false := by decide)
    (hpl : ((backTo pos (starEach [] X.env)).any (·.1) || (backToKw pos (keywordEach kws X.env)).any (·.1.isNone)) = false := by rfl) :
    PE X (.Call (.Name x p) [] kws pos) (tKw sp gV E tk) := by
  constructor
  intro pins s σ H Q I h
  refine wpAny_Call_Name_kw (ld_glob I hg hm (PySem.W.callWith_KW0 (h₀ := X.base) I.ok.mod.kin hk hall ?_ hpl) hdb)
  refine thn (hkw.run pos pins s σ H _ I h) fun ws s2 ⟨zs, H2, I2, rz, q2⟩ => ⟨I2.kIn, ?_⟩
  rw [hks]
  exact run_fnk (us := []) (vs := []) F hr hb hx I2 .nil rz q2
end
theorem take_snoc {α : Type} : ∀ {l : List α} {i : Nat} {x : α}, l[i]? = some x → l.take (i + 1) = l.take i ++ [x] := fun {l i x} h => by rw [List.take_add_one, h]; rfl
theorem compF {J : It} {G : Hp → Prop} {xs : List V} (w : Walk J xs.length G (YAt xs)) (p : V → Bool) (f : V → V) {i : Nat} {tt : TT} {te : TE} {σ : L2.St} {H1 : Hp} {D : Addr} {Qd : Hp → Prop} (nD : H1 D = none) (hG : ∀ H, Grows H1 H → G H) (hz : (xs.filter p).length ≤ sizeLine)
    (htt : ∀ x H k, x ∈ xs → Grows H1 H → (∀ H', Grows H H' → k (p x) H') → tt ((σ.set i none).set i (some x)) H k)
    (hte : ∀ x H Q, x ∈ xs → p x = true → Grows H1 H → (∀ H', Grows H H' → Q (f x) H') → te ((σ.set i none).set i (some x)) H Q)
    (hd : ∀ H, Grows H1 H → H D = some (.lst ((xs.filter p).map f)) → Qd H) :
    ∃ W : Nat → Nat → Hp → Prop, (∃ m, W 0 m (upd H1 D (.lst []))) ∧ ∀ n m H, W n m H →
      (J.stop n H ∧ Qd H) ∨ (J.go n H ∧ ∃ Nx : Hp → Prop, (∀ H', Nx H' → ∃ m', m' < m ∧ W (n + 1) m' H') ∧ ∀ x H', J.yld n H x H' → gName i x (wipe σ [i]) H' fun σ2 H2 => wipe σ2 [i] = wipe σ [i] ∧ tt σ2 H2 fun b H3 =>
        if b = true then te σ2 H3 fun y H4 => ∃ acc, H4 D = some (.lst acc) ∧ acc.length < sizeLine ∧ Nx (upd H4 D (.lst (acc ++ [y]))) else Nx H3) := by
  have gU : ∀ {H : Hp} {o : HO}, Grows H1 H → Grows H1 (upd H D o) := fun g b u e => by
    rw [upd_ne (ne_of_none e nD)]
    exact g b u e
  refine lc_it w (fun n H => Grows H1 H ∧ H D = some (.lst (((xs.take n).filter p).map f))) ⟨Grows.new nD, by rw [upd_same]; rfl⟩ (fun n H _ h => hG H h.1) (fun n x H H' hn ⟨g, hD⟩ ⟨e, hx⟩ => ?_) fun H ⟨g, hD⟩ => hd H g (by rw [List.take_length] at hD; exact hD)
  subst e
  have hm : x ∈ xs := List.mem_of_getElem? hx
  refine ⟨by show (((σ.set i none).set i (some x)).set i none) = σ.set i none; simp, ?_⟩
  refine htt x H' _ hm g fun H2 g2 => ?_
  have et : ((xs.take (n + 1)).filter p).map f = ((xs.take n).filter p).map f ++ (if p x = true then [f x] else []) := by
    rw [take_snoc hx, List.filter_append, List.map_append]
    by_cases hp : p x = true <;> simp [hp]
  by_cases hp : p x = true
  · rw [if_pos hp]
    refine hte x H2 _ hm hp (g.trans g2) fun H3 g3 => ?_
    refine ⟨_, g3 _ _ (g2 _ _ hD), ?_, gU ((g.trans g2).trans g3), ?_⟩
    · rw [List.length_map]
      have hs : ((xs.take (n + 1)).filter p).length ≤ (xs.filter p).length := ((List.take_sublist (n + 1) xs).filter p).length_le
      rw [take_snoc hx, List.filter_append, List.length_append] at hs
      have h1 : ([x].filter p).length = 1 := by simp [hp]
      omega
    · rw [upd_same, et, if_pos hp]
  · rw [if_neg hp]
    refine ⟨g.trans g2, ?_⟩
    rw [et, if_neg hp, List.append_nil]
    exact g2 _ _ hD
theorem comp {J : It} {G : Hp → Prop} {xs : List V} (w : Walk J xs.length G (YAt xs)) (p : V → Bool) (f : V → V) {i : Nat} {tt : TT} {te : TE} {σ : L2.St} {H1 : Hp} {D : Addr} {Qd : Hp → Prop} (nD : H1 D = none) (hG : ∀ H, Grows H1 H → G H) (hz : xs.length ≤ sizeLine)
    (htt : ∀ x H k, x ∈ xs → Grows H1 H → (∀ H', Grows H H' → k (p x) H') → tt ((σ.set i none).set i (some x)) H k)
    (hte : ∀ x H Q, x ∈ xs → p x = true → Grows H1 H → (∀ H', Grows H H' → Q (f x) H') → te ((σ.set i none).set i (some x)) H Q)
    (hd : ∀ H, Grows H1 H → H D = some (.lst ((xs.filter p).map f)) → Qd H) :
    ∃ W : Nat → Nat → Hp → Prop, (∃ m, W 0 m (upd H1 D (.lst []))) ∧ ∀ n m H, W n m H →
      (J.stop n H ∧ Qd H) ∨ (J.go n H ∧ ∃ Nx : Hp → Prop, (∀ H', Nx H' → ∃ m', m' < m ∧ W (n + 1) m' H') ∧ ∀ x H', J.yld n H x H' → gName i x (wipe σ [i]) H' fun σ2 H2 => wipe σ2 [i] = wipe σ [i] ∧ tt σ2 H2 fun b H3 =>
        if b = true then te σ2 H3 fun y H4 => ∃ acc, H4 D = some (.lst acc) ∧ acc.length < sizeLine ∧ Nx (upd H4 D (.lst (acc ++ [y]))) else Nx H3) :=
  compF w p f nD hG (Nat.le_trans (List.length_filter_le p xs) hz) htt hte hd
/-- the signs of a text -/
theorem walk_signs (z : Str) : Walk (Its z) (signsV z).length (fun _ => True) (YAt (signsV z)) := by
  have hn : (signsV z).length = z.cps.size := by unfold signsV; simp
  rw [hn]
  refine walk_str.mono (fun _ _ => trivial) fun i H x H' hi _ ⟨e, c, hc, ex⟩ => ⟨e, ?_⟩
  unfold signsV
  rw [List.getElem?_map, Array.getElem?_toList, hc, ex]
  rfl
theorem signs_len (z : Str) : (signsV z).length = z.length := by
  unfold signsV
  rw [List.length_map, Array.length_toList]
  rfl
theorem signs_mem {z : Str} {x : V} (h : x ∈ signsV z) : ∃ c, c ∈ z.cps.toList ∧ x = .str ⟨#[c]⟩ := by
  obtain ⟨c, hc, rfl⟩ := List.mem_map.mp h
  exact ⟨c, hc, rfl⟩
theorem filter_yes {α : Type} (l : List α) : l.filter (fun _ => true) = l := List.filter_eq_self.mpr fun _ _ => rfl
end SWL
set_option Elab.async false
set_option linter.all false
set_option maxRecDepth 100000
set_option maxHeartbeats 4000000
namespace SWL
open PySem PySem.Spec PyProof.Rows L2 LamX
/-! a comprehension over zip(text, text) -/
theorem walk_pairs (x y : Str) : Walk (PairsS x y) (x.cps.toList.zip y.cps.toList).length (fun _ => True) (fun i H v H' => ∃ (T : Addr) (c d : Nat), v = .ref T ∧ H T = none ∧ H' = upd H T (.tup [.str ⟨#[c]⟩, .str ⟨#[d]⟩]) ∧ (x.cps.toList.zip y.cps.toList)[i]? = some (c, d)) := by
  have hn : (x.cps.toList.zip y.cps.toList).length = min x.cps.size y.cps.size := by simp
  rw [hn]
  refine ⟨fun _ _ hi _ => hi, fun _ _ => rfl, fun i H v H' hi _ q => ?_⟩
  obtain ⟨T, c, d, h1, h2, h3, h4, h5⟩ := q
  exact ⟨T, c, d, h1, h2, h3, List.getElem?_zip_eq_some.mpr ⟨by rw [Array.getElem?_toList]; exact h4, by rw [Array.getElem?_toList]; exact h5⟩⟩
theorem compZ {K : PySem.W.Frag} {x y : Str} (f : Nat × Nat → V) {i j : Nat} {te : TE} {σ : L2.St} {H1 : Hp} {D : Addr} {Qd : Hp → Prop} (nD : H1 D = none) (hij : i ≠ j) (hz : x.length ≤ sizeLine)
    (hte : ∀ c d H Q, (c, d) ∈ x.cps.toList.zip y.cps.toList → Grows H1 H → (∀ H', Grows H H' → Q (f (c, d)) H') → te ((((σ.set j none).set i none).set i (some (.str ⟨#[c]⟩))).set j (some (.str ⟨#[d]⟩))) H Q)
    (hd : ∀ H, Grows H1 H → H D = some (.lst ((x.cps.toList.zip y.cps.toList).map f)) → Qd H) :
    ∃ W : Nat → Nat → Hp → Prop, (∃ m, W 0 m (upd H1 D (.lst []))) ∧ ∀ n m H, W n m H →
      ((PairsS x y).stop n H ∧ Qd H) ∨ ((PairsS x y).go n H ∧ ∃ Nx : Hp → Prop, (∀ H', Nx H' → ∃ m', m' < m ∧ W (n + 1) m' H') ∧ ∀ x' H', (PairsS x y).yld n H x' H' → gTup K 2 (gCons (gName i) (gCons (gName j) gNil)) x' (wipe σ [i, j]) H' fun σ2 H2 => wipe σ2 [i, j] = wipe σ [i, j] ∧ tYes σ2 H2 fun b H3 =>
        if b = true then te σ2 H3 fun y H4 => ∃ acc, H4 D = some (.lst acc) ∧ acc.length < sizeLine ∧ Nx (upd H4 D (.lst (acc ++ [y]))) else Nx H3) := by
  have gU : ∀ {H : Hp} {o : HO}, Grows H1 H → Grows H1 (upd H D o) := fun g b u e => by
    rw [upd_ne (ne_of_none e nD)]
    exact g b u e
  refine lc_it (walk_pairs x y) (fun n H => Grows H1 H ∧ H D = some (.lst (((x.cps.toList.zip y.cps.toList).take n).map f))) ⟨Grows.new nD, by rw [upd_same]; rfl⟩ (fun n H _ h => trivial) (fun n v H H' hn ⟨g, hD⟩ ⟨T, c, d, hv, hT, hH', hcd⟩ => ?_) fun H ⟨g, hD⟩ => hd H g (by rw [List.take_length] at hD; exact hD)
  subst hH'
  have gT : Grows H (upd H T (.tup [.str ⟨#[c]⟩, .str ⟨#[d]⟩])) := Grows.new hT
  refine ⟨T, _, hv, .inl (.inl upd_same), rfl, _, _, rfl, _, _, rfl, rfl, ?_, ?_⟩
  · show (((((σ.set j none).set i none).set i _).set j _).set j none).set i none = (σ.set j none).set i none
    simp only [List.set_set]
    rw [List.set_comm _ _ hij]
    simp only [List.set_set]
  · refine hte c d _ _ (List.mem_of_getElem? hcd) (g.trans gT) fun H3 g3 => ?_
    refine ⟨_, g3 _ _ (gT _ _ hD), ?_, gU ((g.trans gT).trans g3), ?_⟩
    · rw [List.length_map, List.length_take]
      have : (x.cps.toList.zip y.cps.toList).length ≤ x.length := by
        rw [List.length_zip, Array.length_toList]
        exact Nat.min_le_left _ _
      omega
    · rw [upd_same, take_snoc hcd, List.map_append]
      rfl
end SWL
set_option Elab.async false
set_option linter.all false
set_option maxRecDepth 100000
set_option maxHeartbeats 4000000
namespace SWL
open PySem PySem.Spec PyProof.Rows L2 LamX
/-! enumerate(tuple); text * int -/
def IteT (K : PySem.W.Frag) (a : Addr) : It :=
  ⟨fun i H => ∃ (xs : List V) (x : V), SqT K H a xs ∧ xs[i]? = some x, fun i H v H' => ∃ T x, v = .ref T ∧ H T = none ∧ H' = upd H T (.tup [.int (i : Nat), x]) ∧ ∀ xs, SqT K H a xs → xs[i]? = some x, fun i H => ∃ xs : List V, SqT K H a xs ∧ xs.length = i⟩
theorem turn_enumT {P : Program} {w : World} {K : PySem.W.Frag} {elts : List Expr} {kk : Nat} {tpos : Pos} (a e it : Addr) :
    Turn P w K (.Tuple elts kk tpos) (IteT K a) [e, it] e (fun i h => (∃ old, IsEnum h e it (0 + ((i : Nat) : Int)) old) ∧ h.IsTupleIter it a i ∧ e ≠ it ∧ a ≠ it ∧ e ≠ a) where
  mem := by simp
  obj := fun i h st b hb => by
    obtain ⟨⟨old, he⟩, ⟨o, ho, hc, hd⟩, _⟩ := st
    rcases (by simpa using hb : b = e ∨ b = it) with z | z
    · exact ⟨_, by rw [z]; exact he, fun v q => by cases q⟩
    · exact ⟨o, by rw [z]; exact ho, fun v q => by rw [hd] at q; cases q⟩
  keep := fun i h h' st k => let ⟨⟨old, he⟩, hi, hne⟩ := st; ⟨⟨old, k e (by simp) _ he⟩, hi.at fun o q => k it (by simp) o q, hne⟩
  item := by
    intro X hP hw hK hc i pins s σ H E I hf st hg
    subst hP hw hK
    have hh : X.A.handled = none := I.ok.hd hc
    obtain ⟨xs, x, hq, hx⟩ := hg
    obtain ⟨its, rv, p, hz⟩ := I.tuple hq
    obtain ⟨he, hit, hne, hai, hea⟩ := st
    have G := GoesN.enumFrom (elts := elts) (x1 := kk) (pos := tpos) 0 (Draws.tuple (prog := X.prog) (w := X.w) (A := X.A.in1) hh it a hai its.toArray) e hne (by simp [hne, hea]) (by simp)
    have hlt : i < its.toArray.size := by
      have := (List.getElem?_eq_some_iff.mp hx).1
      have := rv.length
      simp
      omega
    refine G.goes i s _ E hlt ⟨he, hit, p⟩ fun v h' tk hY st' hk _ => ?_
    obtain ⟨T, t, u, rfl, hT, hu, hTup⟩ := hY
    have fr : H T = none := I.hok.fresh hT
    have ru : RelV x u := by
      obtain ⟨u', hu', ru⟩ := rv.get hx
      have e : its.toArray[i]? = some u' := by simpa using hu'
      rw [e] at hu
      cases hu
      exact ru
    refine ⟨.ref T, upd H T (.tup [.int (i : Nat), x]), I.turnedNew (t' := tk) (ch := [e, it]) hk hf hT ?_, rfl, ⟨T, x, rfl, fr, rfl, fun ys hy => by rw [I.tuple_inj hy hq]; exact hx⟩, ⟨st'.1, st'.2.1, hne, hai, hea⟩, fun b hb => ?_⟩
    · refine ⟨by show 2 ≤ sizeLine; decide, _, .cons ⟨t, ?_⟩ (.cons ru .nil), hTup⟩
      rw [Int.zero_add]
    · have hlt2 : b < s.heap.objs.size := by
        obtain ⟨old, he⟩ := he
        obtain ⟨o, ho, _⟩ := hit
        rcases (by simpa using hb : b = e ∨ b = it) with z | z
        · rw [z]; exact Heap.lt_size he
        · rw [z]; exact Heap.lt_size ho
      rw [upd_ne (Nat.ne_of_lt (Nat.lt_of_lt_of_le hlt2 hT))]
      exact (hf b hb).1
  done := by
    intro X hP hw hK hc i pins s σ H E I hf st hg
    subst hP hw hK
    have hh : X.A.handled = none := I.ok.hd hc
    obtain ⟨xs, hq, hx⟩ := hg
    obtain ⟨its, rv, p, hz⟩ := I.tuple hq
    obtain ⟨he, hit, hne, hai, hea⟩ := st
    have G := GoesN.enumFrom (elts := elts) (x1 := kk) (pos := tpos) 0 (Draws.tuple (prog := X.prog) (w := X.w) (A := X.A.in1) hh it a hai its.toArray) e hne (by simp [hne, hea]) (by simp)
    have hi : i = its.toArray.size := by
      have := rv.length
      simp
      omega
    rw [hi] at he hit
    exact G.stops s _ E ⟨he, hit, p⟩ fun h' tk hk _ => I.turnedL (t' := tk) (ch := [e, it]) hk hf
  self := fun A i s Q E st h => let ⟨⟨_, he⟩, _⟩ := st; wpAny_pyIter_enum he h
set_option maxHeartbeats 8000000 in
theorem meets_enum1 {v : Value} {o : Obj} {I : Heap → Prop} (B : Begins v o I) : Meets (Builtin.«enumerate.__new__» ⟨[.type "enumerate", v], []⟩) (fun _ R s => I s.heap ∧
      R (.ok (.ret (.ref (s.heap.push o).objs.size))) { s with heap := (s.heap.push o).push { cls := .type "enumerate", data := .fields #[.none, .bool false, .ref s.heap.objs.size, rawInt 0, .none, .none] } }) :=
  .of_wp fun prog w A R s h => by
    obtain ⟨hp, g, d, tk, os⟩ := s
    obtain ⟨h1, h⟩ := h
    have hsub := sub_enumerate
    have beg : ∀ {A' : Around} {E : Value → Shared → Prop} {Q : Value → Shared → Prop}, Q (.ref hp.objs.size) ⟨hp.push o, g, d, tk, os⟩ → wpAny (model prog w) A' (pyIter v) Q E ⟨hp, g, d, tk, os⟩ := fun q => B.iter prog w _ _ ⟨hp, g, d, tk, os⟩ _ h1 q
    wp_walk using beg
    refine wpAny_stack_any fun st => wpAny_pure ?_
    split
    · rename_i c _ _ _ _ _
      cases (c == Value.type "enumerate")
      · wp_walk using beg
        exact ⟨_, rfl, h⟩
      · wp_walk using beg
        exact ⟨_, rfl, h⟩
    · wp_walk using beg
      exact ⟨_, rfl, h⟩
theorem call_enum1 {prog : Program} {w : World} {A : Around} {E : Value → Shared → Prop} {s : Shared} {v : Value} {o : Obj} {I : Heap → Prop} {Q : Value → Shared → Prop} (B : Begins v o I) (h1 : I s.heap)
    (h : ∀ h', IsEnum h' (s.heap.objs.size + 1) s.heap.objs.size 0 .none → h'.get? s.heap.objs.size = some o → (∀ b o, s.heap.get? b = some o → h'.get? b = some o) → Q (.ref (s.heap.objs.size + 1)) { s with heap := h' }) :
    wpAny (model prog w) A (call (.type "enumerate") [v]) Q E s := by
  refine callType_new F.called_enumerate (by decide) (F.typeCall_enumerate_1 _) (F.newCall_enumerate_1 _) (fun obj => F.args_object_init_2 obj _) F.entry_enumerate_new (meets_enum1 B) ⟨h1, ?_⟩
  have hz : (s.heap.push o).objs.size = s.heap.objs.size + 1 := Heap.size_push ..
  show _ ∧ _
  rw [hz]
  have he : IsEnum ((s.heap.push o).push { cls := .type "enumerate", data := .fields #[.none, .bool false, .ref s.heap.objs.size, rawInt 0, .none, .none] }) (s.heap.objs.size + 1) s.heap.objs.size 0 .none := by
    have q := Heap.get?_push_size (s.heap.push o) (o := { cls := .type "enumerate", data := .fields #[.none, .bool false, .ref s.heap.objs.size, rawInt 0, .none, .none] }) rfl
    rw [hz] at q
    exact q
  exact ⟨⟨_, he, rfl⟩, h _ he (Heap.get?_push_of_some _ (Heap.get?_push_size _ B.free)) fun b o x => Heap.get?_push_of_some _ (Heap.get?_push_of_some _ x)⟩
def iEnumT (K : PySem.W.Frag) (ta : TA) : TI := fun σ H R => ta σ H fun vs H1 => ∃ a xs, vs = [.ref a] ∧ SqT K H1 a xs ∧ R (IteT K a) H1
theorem pi_enumT {X : Cx} {e : Expr} {ta : TA} {p pos tpos : Pos} {elts : List Expr} {kk : Nat} (hg : Gl X "enumerate") (hm : X.mg "enumerate" = none) (ha : PA X [e] ta) (hs : starEach [e] X.env = [(false, eval e X.env)] := by rfl) :
    PI X (.Tuple elts kk tpos) (.Call (.Name "enumerate" p) [e] [] pos) (iEnumT X.K ta) := by
  refine ⟨fun pins s σ H R I h => ?_⟩
  refine Call_ (ld_blt I hg hm boot_enumerate (PyProof.Rows.callWith_type1 (thn (ha.run pos pins s σ H _ I h) fun us s1 ⟨vs, H1, I1, r1, q1⟩ => ?_) hs rfl))
  obtain ⟨a, xs, rfl, hq, q⟩ := q1
  obtain ⟨u, rfl, ru⟩ := vals1 r1
  cases ru
  obtain ⟨its, rv, p', hz⟩ := I1.tuple hq
  refine call_enum1 (begins_tuple a its.toArray) p' fun h' he hit hk => wpAny_pyIter_enum he ?_
  have I2 : Inv X pins σ H1 { s1 with heap := h' } := I1.kept (t' := s1.toks) hk
  have hal : a < s1.heap.objs.size := by
    obtain ⟨o, ho, _⟩ := p'
    exact Heap.lt_size ho
  refine ⟨s1.heap.objs.size + 1, [s1.heap.objs.size + 1, s1.heap.objs.size], _, _, H1, rfl, I2, turn_enumT a (s1.heap.objs.size + 1) s1.heap.objs.size, ⟨⟨.none, by rw [Int.zero_add]; exact he⟩, ⟨_, hit, rfl, rfl⟩, Nat.succ_ne_self _, Nat.ne_of_lt hal, Nat.ne_of_gt (Nat.lt_succ_of_lt hal)⟩, fun b hb => ?_, q⟩
  have hle : s1.heap.objs.size ≤ b := by
    rcases (by simpa using hb : b = s1.heap.objs.size + 1 ∨ b = s1.heap.objs.size) with z | z <;> rw [z] <;> first | exact Nat.le_add_right _ _ | exact Nat.le_refl _
  exact I1.fpOk hle (I1.hok.fresh hle)
theorem walk_enumT {K : PySem.W.Frag} {a : Addr} {xs : List V} : Walk (IteT K a) xs.length (fun H => SqT K H a xs) (YPair (fun i => some (.int (i : Nat))) (fun i => xs[i]?)) := by
  refine ⟨fun i _ hi q => ⟨xs, xs[i], q, by simp [hi]⟩, fun _ q => ⟨xs, q, rfl⟩, fun i H v H' _ q y => ?_⟩
  obtain ⟨T, x, h1, h2, h3, h4⟩ := y
  exact ⟨T, .int (i : Nat), x, h1, h2, h3, rfl, h4 xs q⟩
theorem op_mulS {X : Cx} : OpR X (binaryOp .Mult) (fun x y H Q => ∃ (z : Str) (n : Nat), x = .str z ∧ y = .int n ∧ n ≤ 1000000 ∧ z.length * n ≤ 1000000 ∧ Q (.str (Txt.mul z n)) H) := by
  intro pins s σ H x y v u Q I rx ry h
  obtain ⟨z, n, rfl, rfl, hn, hz, q⟩ := h
  obtain ⟨t, rfl⟩ := rx
  obtain ⟨t', rfl⟩ := ry
  have b0 : (0 : Int) ≤ n := Int.natCast_nonneg n
  have b1 : (n : Int) ≤ 1000000 := by omega
  have c1 : ¬ ((n : Int) < -(2 ^ 63 : Int)) := fun h => absurd (Int.lt_of_le_of_lt b0 h) (by decide)
  have c2 : ¬ ((n : Int) ≥ 2 ^ 63) := fun h => absurd (Int.le_trans h b1) (by decide)
  refine SB.mul ⟨Bool.or_eq_false_iff.mpr ⟨decide_eq_false c1, decide_eq_false c2⟩, fun h1 _ h2 => ?_, fun h1 _ => ?_⟩ fun t2 k => ⟨.str (Txt.mul z n), H, I.kept (t' := k) fun _ _ e => e, ⟨t2, rfl⟩, q⟩
  · have h3 : (1 : Int) ≤ n := by omega
    have hn0 : (0 : Int) < n := by omega
    have h5 : ((z.length * n : Nat) : Int) ≤ 1000000 := by omega
    rw [Int.natCast_mul] at h5
    have h6 : ((2 : Int) ^ 63 - 1) / n * n ≤ 2 ^ 63 - 1 := Int.ediv_mul_le _ (by omega)
    have h7 : ((2 : Int) ^ 63 - 1) < (((2 : Int) ^ 63 - 1) / n + 1) * n := Int.lt_ediv_add_one_mul_self _ hn0
    have h8 : (((2 : Int) ^ 63 - 1) / n + 1) * n ≤ z.length * n := Int.mul_le_mul_of_nonneg_right (by omega) (by omega)
    omega
  · rw [Int.toNat_natCast]
    have e : sizeLine = 16777216 := sizeLine_eq
    exact decide_eq_false (by omega)
theorem mul_cps (z : Str) (n : Nat) : (Txt.mul z n).cps.toList = (List.replicate n z.cps.toList).flatten := by
  have fold : ∀ (n : Nat) (acc : Array Nat), ((List.replicate n z.cps).foldl (· ++ ·) acc).toList = acc.toList ++ (List.replicate n z.cps.toList).flatten := by
    intro n
    induction n with
    | zero => intro acc; simp
    | succ n ih =>
      intro acc
      rw [List.replicate_succ, List.foldl_cons, ih, List.replicate_succ, List.flatten_cons, Array.toList_append, List.append_assoc]
  unfold Txt.mul
  by_cases h : (n : Int) < 1
  · have : n = 0 := by omega
    subst this
    rw [if_pos h]
    rfl
  · rw [if_neg h]
    by_cases h2 : ((n : Int) == 1 || z.length == 0) = true
    · rw [if_pos h2]
      simp only [Bool.or_eq_true, beq_iff_eq] at h2
      rcases h2 with h2 | h2
      · have : n = 1 := by omega
        subst this
        simp
      · have : z.cps.toList = [] := List.length_eq_zero_iff.mp (by rw [Array.length_toList]; exact h2)
        rw [this]
        simp
    · rw [if_neg h2, Int.toNat_natCast]
      have := fold n #[]
      simpa using this
end SWL
set_option Elab.async false
set_option linter.all false
set_option maxRecDepth 100000
set_option maxHeartbeats 4000000
namespace SWL
open PySem PySem.Spec PyProof.Rows L2 LamX
/-! a list display over things of which more is known than their values -/
theorem compT {α : Type} {J : It} {G : Hp → Prop} {I : List α} {gv : α → V} (w : Walk J I.length G (YAt (I.map gv))) (p : α → Bool) (f : α → V) {own : List Nat} {g : TG} {tt : TT} {te : TE} {σ : L2.St} (τ : α → L2.St) {H1 : Hp} {D : Addr} {Qd : Hp → Prop} (nD : H1 D = none)
    (hG : ∀ H, Grows H1 H → G H) (hz : I.length ≤ sizeLine)
    (hgt : ∀ q H Q, q ∈ I → Grows H1 H → Q (τ q) H → g (gv q) (wipe σ own) H Q) (hw : ∀ q, wipe (τ q) own = wipe σ own)
    (htt : ∀ q H k, q ∈ I → Grows H1 H → (∀ H', Grows H H' → k (p q) H') → tt (τ q) H k)
    (hte : ∀ q H Q, q ∈ I → p q = true → Grows H1 H → (∀ H', Grows H H' → Q (f q) H') → te (τ q) H Q)
    (hd : ∀ H, Grows H1 H → H D = some (.lst ((I.filter p).map f)) → Qd H) :
    ∃ W : Nat → Nat → Hp → Prop, (∃ m, W 0 m (upd H1 D (.lst []))) ∧ ∀ n m H, W n m H →
      (J.stop n H ∧ Qd H) ∨ (J.go n H ∧ ∃ Nx : Hp → Prop, (∀ H', Nx H' → ∃ m', m' < m ∧ W (n + 1) m' H') ∧ ∀ x H', J.yld n H x H' → g x (wipe σ own) H' fun σ2 H2 => wipe σ2 own = wipe σ own ∧ tt σ2 H2 fun b H3 =>
        if b = true then te σ2 H3 fun y H4 => ∃ acc, H4 D = some (.lst acc) ∧ acc.length < sizeLine ∧ Nx (upd H4 D (.lst (acc ++ [y]))) else Nx H3) := by
  have gU : ∀ {H : Hp} {o : HO}, Grows H1 H → Grows H1 (upd H D o) := fun g b u e => by
    rw [upd_ne (ne_of_none e nD)]
    exact g b u e
  refine lc_it w (fun n H => Grows H1 H ∧ H D = some (.lst (((I.take n).filter p).map f))) ⟨Grows.new nD, by rw [upd_same]; rfl⟩ (fun n H _ h => hG H h.1) (fun n x H H' hn ⟨g1, hD⟩ ⟨e, hx⟩ => ?_) fun H ⟨g1, hD⟩ => hd H g1 (by rw [List.take_length] at hD; exact hD)
  subst e
  rw [List.getElem?_map] at hx
  obtain ⟨q, hq, rfl⟩ : ∃ q, I[n]? = some q ∧ x = gv q := by
    cases e : I[n]? with
    | none => rw [e] at hx; cases hx
    | some q => rw [e] at hx; exact ⟨q, rfl, (Option.some.inj hx).symm⟩
  have hm : q ∈ I := List.mem_of_getElem? hq
  refine hgt q H' _ hm g1 ⟨hw q, ?_⟩
  refine htt q H' _ hm g1 fun H2 g2 => ?_
  have et : ((I.take (n + 1)).filter p).map f = ((I.take n).filter p).map f ++ (if p q = true then [f q] else []) := by
    rw [take_snoc hq, List.filter_append, List.map_append]
    by_cases hp : p q = true <;> simp [hp]
  by_cases hp : p q = true
  · rw [if_pos hp]
    refine hte q H2 _ hm hp (g1.trans g2) fun H3 g3 => ?_
    refine ⟨_, g3 _ _ (g2 _ _ hD), ?_, gU ((g1.trans g2).trans g3), ?_⟩
    · rw [List.length_map]
      have hs : ((I.take (n + 1)).filter p).length ≤ (I.filter p).length := ((List.take_sublist (n + 1) I).filter p).length_le
      rw [take_snoc hq, List.filter_append, List.length_append] at hs
      have h1 : ([q].filter p).length = 1 := by simp [hp]
      have h2 := List.length_filter_le p I
      omega
    · rw [upd_same, et, if_pos hp]
  · rw [if_neg hp]
    refine ⟨g1.trans g2, ?_⟩
    rw [et, if_neg hp, List.append_nil]
    exact g2 _ _ hD
theorem comp1 {α : Type} {J : It} {G : Hp → Prop} {I : List α} {gv : α → V} (w : Walk J I.length G (YAt (I.map gv))) (p : α → Bool) (f : α → V) {i : Nat} {tt : TT} {te : TE} {σ : L2.St} {H1 : Hp} {D : Addr} {Qd : Hp → Prop} (nD : H1 D = none)
    (hG : ∀ H, Grows H1 H → G H) (hz : I.length ≤ sizeLine)
    (htt : ∀ q H k, q ∈ I → Grows H1 H → (∀ H', Grows H H' → k (p q) H') → tt ((σ.set i none).set i (some (gv q))) H k)
    (hte : ∀ q H Q, q ∈ I → p q = true → Grows H1 H → (∀ H', Grows H H' → Q (f q) H') → te ((σ.set i none).set i (some (gv q))) H Q)
    (hd : ∀ H, Grows H1 H → H D = some (.lst ((I.filter p).map f)) → Qd H) :
    ∃ W : Nat → Nat → Hp → Prop, (∃ m, W 0 m (upd H1 D (.lst []))) ∧ ∀ n m H, W n m H →
      (J.stop n H ∧ Qd H) ∨ (J.go n H ∧ ∃ Nx : Hp → Prop, (∀ H', Nx H' → ∃ m', m' < m ∧ W (n + 1) m' H') ∧ ∀ x H', J.yld n H x H' → gName i x (wipe σ [i]) H' fun σ2 H2 => wipe σ2 [i] = wipe σ [i] ∧ tt σ2 H2 fun b H3 =>
        if b = true then te σ2 H3 fun y H4 => ∃ acc, H4 D = some (.lst acc) ∧ acc.length < sizeLine ∧ Nx (upd H4 D (.lst (acc ++ [y]))) else Nx H3) :=
  compT w p f (own := [i]) (g := gName i) (fun q => (σ.set i none).set i (some (gv q))) nD hG hz (fun q H Q _ _ h => h) (fun q => by show (((σ.set i none).set i (some (gv q))).set i none) = σ.set i none; simp) htt hte hd
end SWL
set_option Elab.async false
set_option linter.all false
set_option maxRecDepth 100000
set_option maxHeartbeats 4000000
namespace SWL
open PySem PySem.Spec PyProof.Rows L2
/-! repr of any plain data -/
def askReprD (K : PySem.W.Frag) : List V → Hp → VK → Prop := fun xs H Q =>
  ∃ (x : V) (d : PyData), xs = [x] ∧ Dp K H x d ∧ d.showable = true ∧ d.hasDict = false ∧ d.depth ≤ 50 ∧ d.shown.length ≤ sizeLine ∧ Q (.str d.shown) H
section
variable {X : Cx}
theorem cr_reprD (gd : X.A.guards = some []) (hu : X.A.units + 64 < cLine) : CallR X (.builtin "repr") (askReprD X.K) := by
  intro pins s σ H xs us Q I rel q
  obtain ⟨x, d, rfl, hd, hs, hn, hdep, hlen, q⟩ := q
  have tk : ∀ {t : Tok}, Inv X pins σ H { s with toks := t } := fun {t} => I.kept (t' := t) (h' := s.heap) fun _ _ e => e
  have byRef : ∀ a, x = .ref a → _ := fun a (e : x = .ref a) => by
    subst e
    exact cr_repr gd hu pins s σ H _ us Q I rel ⟨a, d, rfl, hd, hs, hn, hdep, hlen, q⟩
  cases hd with
  | lst h1 h2 => exact byRef _ rfl
  | tup h1 h2 => exact byRef _ rfl
  | non =>
    obtain ⟨u, rfl, ru⟩ := vals1 rel
    cases ru
    exact PySem.P.repr_of_none ⟨.str (PyData.shown _), H, tk, ⟨_, rfl⟩, q⟩
  | bl b =>
    obtain ⟨u, rfl, ru⟩ := vals1 rel
    cases ru
    exact PySem.P.repr_of_bool ⟨.str (PyData.shown _), H, tk, ⟨_, rfl⟩, q⟩
  | int i =>
    obtain ⟨u, rfl, t, rfl⟩ := vals1 rel
    exact PySem.P.repr_of_int (of_decide_eq_true hs) ⟨.str (PyData.shown _), H, tk, ⟨_, rfl⟩, q⟩
  | str z =>
    obtain ⟨u, rfl, t, rfl⟩ := vals1 rel
    exact PySem.P.repr_of_str ⟨.str (PyData.shown _), H, tk, ⟨_, rfl⟩, q⟩ hlen
end
end SWL
set_option Elab.async false
set_option linter.all false
set_option maxRecDepth 100000
set_option maxHeartbeats 4000000
namespace SWL
open PySem PySem.Spec PyProof.Rows L2 LamX
def topS (i : Nat) : Stmt := PySem.Challenge.pw_swinglogic_k26_whole_ideals_within_ideal.main.body.getD i (.Pass ⟨0, 0, 0, 0⟩)
abbrev sIsL : Stmt := topS 7
abbrev sNeedL : Stmt := topS 8
abbrev sIsPart : Stmt := topS 11
abbrev sIsIdeal : Stmt := topS 12
abbrev sNeedIdeal : Stmt := topS 13
abbrev sHasAll : Stmt := topS 14
abbrev sPlainOf : Stmt := topS 15
abbrev sPlainId : Stmt := topS 16
abbrev sLies : Stmt := topS 17
abbrev sWithin : Stmt := topS 18
abbrev sBegun : Stmt := topS 20
abbrev sMixed : Stmt := topS 21
abbrev sDraw : Stmt := topS 22
abbrev sPick : Stmt := topS 23
abbrev sPlain : Stmt := topS 24
abbrev sIs : Stmt := topS 25
abbrev sCaught : Stmt := topS 26
abbrev sMoL : Stmt := topS 27
abbrev sMoWords : Stmt := topS 28
abbrev sMoPart : Stmt := topS 29
abbrev sMoIdeal : Stmt := topS 30
abbrev sMoRest : Stmt := topS 31
abbrev sMoIn : Stmt := topS 32
abbrev sMoJoined : Stmt := topS 33
abbrev sMoWithin : Stmt := topS 34
abbrev sChanged : Stmt := topS 35
abbrev sLaw : Stmt := topS 36
/-- the module's names: what is built in, and the constants -/
structure Blt (mg : Str → Option Value) : Prop where
  isi : mg "isinstance" = none
  str : mg "str" = none
  int : mg "int" = none
  list : mg "list" = none
  tuple : mg "tuple" = none
  dict : mg "dict" = none
  len : mg "len" = none
  all : mg "all" = none
  any : mg "any" = none
  zip : mg "zip" = none
  sorted : mg "sorted" = none
  abs : mg "abs" = none
  range : mg "range" = none
  min : mg "min" = none
  repr : mg "repr" = none
  enum : mg "enumerate" = none
  bool : mg "bool" = none
  small : ∃ t, mg "SMALL" = some (.str "abcdefghijklmnopqrstuvwxyz" t)
  mostL : ∃ t, mg "MOST_LETTERS" = some (.int 4 t)
  mostP : ∃ t, mg "MOST_PARTS" = some (.int 60 t)
def NotStr (K : PySem.W.Frag) (H : Hp) (x : V) : Prop := ∃ t : String, TyX K H x (.type t) ∧ kitB t "str" = some false
def smallS : Str := "abcdefghijklmnopqrstuvwxyz"
def sign0 : V → Nat
  | .str z => z.cps.toList.headD 0
  | _ => 0
def inSm (v : V) : V := .bl (decide (sign0 v ∈ smallS.cps.toList))
theorem lt_one (c d : Nat) : decide (([c] : List Nat) < [d]) = decide (c < d) := by
  refine decide_eq_decide.mpr ?_
  constructor
  · intro h
    cases h with
    | rel h => exact h
    | cons h => cases h
  · intro h
    exact .rel h
def rises : List Nat → Bool
  | a :: b :: r => decide (a < b) && rises (b :: r)
  | _ => true
theorem rises_zip : ∀ l : List Nat, ((l.zip (l.drop 1)).map fun p => decide (p.1 < p.2)).all id = rises l
  | [] => rfl
  | [a] => rfl
  | a :: b :: r => by
    have ih := rises_zip (b :: r)
    show (decide (a < b) && (((b :: r).zip ((b :: r).drop 1)).map fun p => decide (p.1 < p.2)).all id) = (decide (a < b) && rises (b :: r))
    rw [ih]
theorem cut_len (z : Str) : z.cps.toList.length = z.length := Array.length_toList
theorem cut1 (z : Str) : (cutS z (some 1) none).cps.toList = z.cps.toList.drop 1 := by
  have h1 : HT.sIx z.length 0 (some 1) = min 1 z.length := HT.sIx_nat _ _ 1
  have h2 : HT.sIx z.length z.length none = z.length := rfl
  unfold cutS
  rw [h1, h2]
  show (z.cps.toList.drop (min 1 z.length)).take (z.length - min 1 z.length) = _
  have e : z.cps.toList.drop (min 1 z.length) = z.cps.toList.drop 1 := by
    by_cases h : 1 ≤ z.length
    · rw [Nat.min_eq_left h]
    · have : z.length = 0 := by omega
      have hz : z.cps.toList = [] := List.length_eq_zero_iff.mp (by rw [cut_len]; exact this)
      rw [hz]
      simp
  rw [e]
  refine List.take_of_length_le ?_
  rw [List.length_drop, cut_len]
  omega
def okLetters (z : Str) : Bool := decide (1 ≤ z.length ∧ z.length ≤ 4) && (z.cps.toList.all (fun c => decide (c ∈ smallS.cps.toList)) && rises z.cps.toList)
def spIsL (K : PySem.W.Frag) : Sp := fun vs H Q _ => ∃ x, vs = [x] ∧ ((∃ z, x = .str z ∧ z.length ≤ sizeLine ∧ ∀ H', Grows H H' → Q (.bl (okLetters z)) H') ∨ (NotStr K H x ∧ Q (.bl false) H))
theorem if_neg_of {c : Prop} [Decidable c] {A B : Prop} (hc : ¬ c) (h : B) : if c then A else B := by
  rw [if_neg hc]
  exact h
theorem if_pos_of {c : Prop} [Decidable c] {A B : Prop} (hc : c) (h : A) : if c then A else B := by
  rw [if_pos hc]
  exact h
section
variable {P : Program} {w : World} {K : PySem.W.Frag} {mg : Str → Option Value} {base : Heap}
theorem scIsL : FnScope ["thing", "sign", "one", "other"] ["thing"] (defScope sIsL) := ⟨rfl, rfl, rfl, by decide +kernel, rfl, by decide +kernel, by decide +kernel⟩
theorem ok_isL {f : Addr} {fd : FuncData} (F : L2.Fun K "is_letters" "is_letters" sIsL f fd) (B : Blt mg) : FnOk P w K mg base CX0 2 f fd ["thing"] (spIsL K) := by
  refine F.ok scIsL (fun vs H Q E h => ?_) (fun cdv A outer s H vs Q E hr h => ⟨_,
    pss_cons (ps_if (pw_or (pt_not (pt_truth (pe_callB call_isi (by rfl) B.isi (by decide +kernel) (pa_cons (pv 0) (pa_cons (pe_bltn (u := .type "str") (v := .ty "str") (by rfl) B.str (by decide +kernel) rfl) pa_nil))) (by intro _; rfl)))
      (pw_or1 (pt_not (pt_chain op_le op_le pe_int (pe_callB call_len_str (by rfl) B.len PySem.boot_len (pa_cons (pv 0) pa_nil)) (pe_glob (v := .int 4) (by rfl) B.mostL.choose_spec ⟨_, rfl⟩))))).pt (pss_one (ps_ret pe_bl)) pss_nil)
    (pss_one (ps_ret (pe_and
      (pe_callB (cr_all rfl) (by rfl) B.all (by decide +kernel) (pa_cons (pe_lc (own := [("sign", 1)]) (g := gName 1) (tt := tYes) rfl scIsL.nd (pi_str (pv 0)) (blkOk_by (N := ["thing", "sign", "one", "other"]) (sc := defScope sIsL) (by decide +kernel)) (fun _ _ _ _ _ => pg_name (i := 1) scIsL.nd rfl (Or.inl rfl)) (fun _ _ _ _ _ => pts_nil)
        (fun _ _ _ _ _ => pe_cmpR op_inS (pv 1) (pe_glob (v := .str smallS) (by rfl) B.small.choose_spec ⟨_, rfl⟩) rfl)) pa_nil))
      (pe_one (pe_callB (cr_all rfl) (by rfl) B.all (by decide +kernel) (pa_cons (pe_lc (own := [("one", 2), ("other", 3)]) (g := gTup K 2 (gCons (gName 2) (gCons (gName 3) gNil))) (tt := tYes) rfl scIsL.nd (pi_zipS (by rfl) B.zip (pa_cons (pv 0) (pa_cons (pe_slice sl_str (pv 0) (po_some pe_int) po_none) pa_nil))) (blkOk_by (N := ["thing", "sign", "one", "other"]) (sc := defScope sIsL) (by decide +kernel)) (fun _ _ _ _ _ => pg_tup rfl (pgs_cons (pg_name (i := 2) scIsL.nd rfl (Or.inl rfl)) (pgs_cons (pg_name (i := 3) scIsL.nd rfl (Or.inl rfl)) pgs_nil))) (fun _ _ _ _ _ => pts_nil)
        (fun _ _ _ _ _ => pe_cmpR op_lt_str (pv 2) (pv 3) rfl)) pa_nil)))))), ?_⟩)
  · obtain ⟨x, rfl, _⟩ := h
    rfl
  · obtain ⟨x, rfl, h⟩ := h
    rcases h with ⟨z, rfl, hz, q⟩ | ⟨⟨t, ty, hk⟩, q⟩
    · refine ⟨_, rfl, .str z, .ty "str", .type "str", .type "str", true, rfl, .ty "str", .base (.str z), kit_ty (by decide +kernel), true, rfl, ?_⟩
      refine if_neg_of (by decide) ?_
      refine ⟨_, rfl, z, rfl, hz, _, _, rfl, rfl, decide ((1 : Int) ≤ z.length), rfl, ?_⟩
      by_cases c1 : (1 : Int) ≤ z.length
      · refine if_pos_of (decide_eq_true c1) ⟨_, _, rfl, rfl, decide ((z.length : Int) ≤ 4), rfl, ?_⟩
        by_cases c2 : (z.length : Int) ≤ 4
        · refine if_neg_of (by rw [decide_eq_true c2]; decide) ?_
          refine ⟨_, rfl, z, rfl, fun D nD => comp (xs := signsV z) (walk_signs z) (fun _ => true) inSm nD (fun _ _ => trivial) (by rw [signs_len]; exact hz) (fun x H k _ g hk => hk H (Grows.refl H)) (fun x H Q hx _ g hq => ?_) (fun H2 g2 hD => ?_)⟩
          · obtain ⟨c, hc, rfl⟩ := signs_mem hx
            exact ⟨_, rfl, c, smallS, rfl, rfl, hq _ (Grows.refl _)⟩
          · rw [filter_yes] at hD
            refine ⟨D, z.cps.toList.map fun c => decide (c ∈ smallS.cps.toList), rfl, .inl (.inl (hD.trans ?_)), _, rfl, ?_⟩
            · unfold signsV
              rw [List.map_map, List.map_map]
              rfl
            · have e1 : (z.cps.toList.map fun c => decide (c ∈ smallS.cps.toList)).all id = z.cps.toList.all fun c => decide (c ∈ smallS.cps.toList) := by rw [List.all_map]; rfl
              rw [e1]
              have el : decide (1 ≤ z.length ∧ z.length ≤ 4) = true := decide_eq_true (by omega)
              cases e2 : z.cps.toList.all fun c => decide (c ∈ smallS.cps.toList) with
              | false =>
                refine if_neg_of (by decide) ?_
                have e3 : okLetters z = false := by unfold okLetters; rw [el, e2]; rfl
                rw [e3] at q
                exact q H2 g2
              | true =>
                refine if_pos_of rfl ?_
                refine ⟨_, rfl, _, rfl, 1, rfl, z, rfl, hz, z, _, rfl, fun D2 nD2 => compZ (fun p => V.bl (decide (p.1 < p.2))) nD2 (by decide) hz (fun c d H Q _ _ hq => ?_) fun H3 g3 hD3 => ?_⟩
                · refine ⟨_, rfl, _, rfl, _, _, rfl, rfl, ?_⟩
                  rw [show decide ((⟨#[c]⟩ : Str).cps.toList < (⟨#[d]⟩ : Str).cps.toList) = decide (c < d) from lt_one c d]
                  exact hq H (Grows.refl H)
                · rw [cut1] at hD3
                  refine ⟨D2, (z.cps.toList.zip (z.cps.toList.drop 1)).map fun p => decide (p.1 < p.2), rfl, .inl (.inl (hD3.trans ?_)), ?_⟩
                  · rw [List.map_map]
                    rfl
                  · rw [rises_zip]
                    have e3 : okLetters z = rises z.cps.toList := by unfold okLetters; rw [el, e2, Bool.true_and, Bool.true_and]
                    rw [e3] at q
                    exact q H3 (g2.trans g3)
        · refine if_pos_of (by rw [decide_eq_false c2]; decide) ?_
          have e : okLetters z = false := by
            unfold okLetters
            rw [decide_eq_false (by omega)]
            rfl
          rw [e] at q
          exact q H (Grows.refl H)
      · refine if_neg_of (by rw [decide_eq_false c1]; decide) ⟨false, rfl, if_pos_of (by decide) ?_⟩
        have e : okLetters z = false := by
          unfold okLetters
          rw [decide_eq_false (by omega)]
          rfl
        rw [e] at q
        exact q H (Grows.refl H)
    · refine ⟨_, rfl, x, .ty "str", .type t, .type "str", false, rfl, .ty "str", ty, kit_ty hk, false, rfl, ?_⟩
      exact q
end
end SWL
set_option Elab.async false
set_option linter.all false
set_option maxRecDepth 100000
set_option maxHeartbeats 4000000
namespace SWL
open PySem PySem.Spec PyProof.Rows L2 LamX
abbrev veB : List Value := [.type "ValueError", .type "Exception", .type "BaseException", .type "object"]
/-- an exception class of the text -/
structure ErrC (K : PySem.W.Frag) (mg : Str → Option Value) (x : Str) (C CS : Addr) : Prop where
  gC : mg x = some (.ref C)
  xC : PySem.W.excIn K C veB "ValueError.__new__" = true
  kC : PySem.W.keepIn K (.ref C) = true
  bC : PySem.W.subIn K (.ref C) (.type "BaseException") = some true
  tC : PySem.W.typeIn K (.ref C) = some (.type "type")
  eC : PySem.W.exmOne K (.ref C) (.ref CS) = some true
/-- a def of the text, by its name -/
structure Def (mg : Str → Option Value) (K : PySem.W.Frag) (x : Str) (f : Addr) (fd : FuncData) (ps : List Str) : Prop where
  g : mg x = some (.ref f)
  k : PySem.W.keepIn K (.ref f) = true
  b : L2.Binds K fd ps []
def spNeedL (K : PySem.W.Frag) (CN : Addr) : Sp := fun vs H Q E => ∃ x, vs = [x] ∧ ((∃ z, x = .str z ∧ z.length ≤ sizeLine ∧ ∀ H', Grows H H' → (okLetters z = true → Q .non H') ∧ (okLetters z = false → E (.ref CN) none H')) ∨ (NotStr K H x ∧ E (.ref CN) none H))
def okWord (ls z : Str) (m : Int) : Bool := decide ((z.length : Int) ≤ m) && z.cps.toList.all fun c => decide (c ∈ ls.cps.toList)
def inLs (ls : Str) (v : V) : V := .bl (decide (sign0 v ∈ ls.cps.toList))
/-- where the word's pointer stands behind a sign -/
def adv (w : List Nat) (i : Nat) (c : Nat) : Nat := if w[i]? = some c then i + 1 else i
def strewnB (a b : Str) : Bool := decide (b.cps.toList.foldl (adv a.cps.toList) 0 = a.length)
theorem passE0 {P : Program} {w : World} {X : Cx} (hP : X.prog = P) (hw : X.w = w) : Passes (L2.CX P w) X E0 := fun pins σ H s e s' I c => by
  obtain ⟨_, _, _, _, _, _, _, _, _, _, _, _, z⟩ := c
  exact z.elim
theorem pi_or {X : Cx} {tg it : Expr} {w1 w2 : TI} (h1 : PI X tg it w1) (h2 : PI X tg it w2) : PI X tg it (fun σ H R => w1 σ H R ∨ w2 σ H R) :=
  ⟨fun pins s σ H R I h => h.elim (h1.run pins s σ H R I) (h2.run pins s σ H R I)⟩
theorem mem_take_len {α : Type} {l : List α} {n : Nat} : (l.take n).length ≤ l.length := by rw [List.length_take]; omega
theorem tyx_grows {K : PySem.W.Frag} {H H' : Hp} (g : Grows H H') {x : V} {t : Value} (h : TyX K H x t) : TyX K H' x t := by
  cases h with
  | base b =>
    cases b with
    | non => exact .base .non
    | bl y => exact .base (.bl y)
    | int i => exact .base (.int i)
    | str z => exact .base (.str z)
    | flt z => exact .base (.flt z)
    | lst e => exact .base (.lst (g _ _ e))
    | frz e => exact .base (.frz (g _ _ e))
    | tup e => exact .base (.tup (g _ _ e))
    | dK e => exact .base (.dK (g _ _ e))
    | dT e => exact .base (.dT (g _ _ e))
    | ins e cl ha hn ht hm => exact .base (.ins (g _ _ e) cl ha hn ht hm)
  | byt b => exact .byt b
  | set e => exact .set (g _ _ e)
  | kList e c => exact .kList e c
  | kTuple e c => exact .kTuple e c
  | kDict e c => exact .kDict e c
  | fTuple e => exact .fTuple (g _ _ e)
  | fDict e => exact .fDict (g _ _ e)
theorem NotStr.grows {K : PySem.W.Frag} {H H' : Hp} (g : Grows H H') {x : V} (h : NotStr K H x) : NotStr K H' x := by
  obtain ⟨t, h1, h2⟩ := h
  exact ⟨t, tyx_grows g h1, h2⟩
theorem ty_list {K : PySem.W.Frag} {H : Hp} {a : Addr} {xs : List V} (h : SqL K H a xs) : TyX K H (.ref a) (.type "list") := by
  rcases h with (h | ⟨o, h⟩) | ⟨o, its, n, h1, h2, _⟩
  · exact .base (.lst h)
  · exact .base (.frz h)
  · exact .kList h1 h2
theorem ty_tuple {K : PySem.W.Frag} {H : Hp} {a : Addr} {xs : List V} (h : SqT K H a xs) : TyX K H (.ref a) (.type "tuple") := by
  rcases h with (h | ⟨o, h⟩) | ⟨o, its, n, h1, h2, _⟩
  · exact .base (.tup h)
  · exact .fTuple h
  · exact .kTuple h1 h2
theorem ty_sq {K : PySem.W.Frag} {H : Hp} {a : Addr} {xs : List V} (h : Sq K H a xs) : ∃ t : String, TyX K H (.ref a) (.type t) ∧ PySem.W.kitAny K (.type t) [.type "list", .type "tuple"] = some true := by
  rcases h with h | h
  · exact ⟨"list", ty_list h, kitAny_cons (b := true) (kit_ty (by decide +kernel)) (fun z => by cases z) fun _ => rfl⟩
  · exact ⟨"tuple", ty_tuple h, kitAny_cons (b := false) (kit_ty (by decide +kernel)) (fun _ => kitAny_cons (b := true) (kit_ty (by decide +kernel)) (fun z => by cases z) fun _ => rfl) fun z => by cases z⟩
def NotSeq (K : PySem.W.Frag) (H : Hp) (x : V) : Prop := ∃ t : String, TyX K H x (.type t) ∧ kitB t "list" = some false ∧ kitB t "tuple" = some false
theorem NotSeq.grows {K : PySem.W.Frag} {H H' : Hp} (g : Grows H H') {x : V} (h : NotSeq K H x) : NotSeq K H' x := by
  obtain ⟨t, h1, h2⟩ := h
  exact ⟨t, tyx_grows g h1, h2⟩
theorem NotSeq.kit {K : PySem.W.Frag} {t : String} (h1 : kitB t "list" = some false) (h2 : kitB t "tuple" = some false) : PySem.W.kitAny K (.type t) [.type "list", .type "tuple"] = some false :=
  kitAny_cons (b := false) (kit_ty h1) (fun _ => kitAny_cons (b := false) (kit_ty h2) (fun _ => kitAny_nil) fun z => by cases z) fun z => by cases z
section
variable {P : Program} {w : World} {K : PySem.W.Frag} {mg : Str → Option Value} {base : Heap}
theorem scNeedL : FnScope ["thing"] ["thing"] (defScope sNeedL) := ⟨rfl, rfl, rfl, by decide +kernel, rfl, by decide +kernel, by decide +kernel⟩
theorem ok_needL {f f1 CN CS : Addr} {fd fd1 : FuncData} (F : L2.Fun K "need_letters" "need_letters" sNeedL f fd) (G : FnOk P w K mg base CX0 2 f1 fd1 ["thing"] (spIsL K)) (D : Def mg K "is_letters" f1 fd1 ["thing"]) (EN : ErrC K mg "NoLetters" CN CS) :
    FnOk P w K mg base (L2.CX P w) 3 f fd ["thing"] (spNeedL K CN) := by
  refine F.okX scNeedL (fun vs H Q E h => ?_) (fun cdv A outer s H vs Q E hr h => ⟨_,
    pss_one (ps_if (pt_not (pt_truth (pe_call G hr (by rfl) D.g D.k D.b .nil pass0 (pa_cons (pv 0) pa_nil)) (by intro _; rfl)))
      (pss_one (ps_raise rfl (takes_of rfl rfl rfl rfl) (pmk_own PySem.F.excBase_ValueError EN.xC EN.gC EN.kC (raises_own EN.bC EN.tC) rfl))) pss_nil), ?_⟩)
  · obtain ⟨x, rfl, _⟩ := h
    rfl
  · obtain ⟨x, rfl, h⟩ := h
    refine ⟨_, rfl, x, rfl, ?_⟩
    rcases h with ⟨z, rfl, hz, q⟩ | ⟨n, q⟩
    · refine .inl ⟨z, rfl, hz, fun H' g => ?_⟩
      obtain ⟨q1, q2⟩ := q H' g
      cases e : okLetters z with
      | true => exact ⟨true, rfl, if_neg_of (by decide) (q1 e)⟩
      | false => exact ⟨false, rfl, if_pos_of (by decide) (q2 e)⟩
    · exact .inr ⟨n, false, rfl, if_pos_of (by decide) q⟩
end
end SWL
set_option Elab.async false
set_option linter.all false
set_option maxRecDepth 100000
set_option maxHeartbeats 4000000
namespace SWL
open PySem PySem.Spec PyProof.Rows L2 LamX
def stD (g c : Addr) (r t : Int) : List (Key × V) := [(.inr "great", .ref g), (.inr "cells", .ref c), (.inr "rest", .int r), (.inr "turn", .int t)]
theorem st_great (g c : Addr) (r t : Int) : valV (stD g c r t) (.inr "great") = some (.ref g) := rfl
theorem st_cells (g c : Addr) (r t : Int) : valV (stD g c r t) (.inr "cells") = some (.ref c) := rfl
theorem st_rest (g c : Addr) (r t : Int) : valV (stD g c r t) (.inr "rest") = some (.int r) := rfl
theorem st_turn (g c : Addr) (r t : Int) : valV (stD g c r t) (.inr "turn") = some (.int t) := rfl
theorem st_putR (g c : Addr) (r t r' : Int) : putK (stD g c r t) (.inr "rest") (.int r') = stD g c r' t := rfl
theorem st_putT (g c : Addr) (r t t' : Int) : putK (stD g c r t) (.inr "turn") (.int t') = stD g c r t' := rfl
theorem st_new (g c : Addr) : mergeK [] (stD g c 0 0) = stD g c 0 0 := rfl
/-- the state of the draws: at most n blends so far -/
structure SAt (H : Hp) (a g c : Addr) (cs : List Int) (n : Nat) : Prop where
  ex : ∃ (gs : List Int) (r t : Int), H a = some (.dK (stD g c r t)) ∧ H g = some (.lst (gs.map V.int)) ∧ H c = some (.lst (cs.map V.int)) ∧ g ≠ c ∧ (∀ z ∈ gs, 0 ≤ z) ∧ 0 ≤ r ∧ 0 ≤ t ∧ t ≤ n
/-- all stays but the state and its great cells -/
def But (H H' : Hp) (a g : Addr) : Prop := ∀ b o, H b = some o → b ≠ a → b ≠ g → H' b = some o
theorem But.refl (H : Hp) (a g : Addr) : But H H a g := fun _ _ h _ _ => h
theorem But.trans {H H1 H2 : Hp} {a g : Addr} (x : But H H1 a g) (y : But H1 H2 a g) : But H H2 a g := fun b o h h1 h2 => y b o (x b o h h1 h2) h1 h2
theorem But.of {H H' : Hp} {a g : Addr} (x : Grows H H') : But H H' a g := fun b o h _ _ => x b o h
theorem SAt.grows {H H' : Hp} {a g c : Addr} {cs : List Int} {n : Nat} (s : SAt H a g c cs n) (x : Grows H H') : SAt H' a g c cs n := by
  obtain ⟨gs, r, t, h1, h2, h3, h4⟩ := s.ex
  exact ⟨gs, r, t, x _ _ h1, x _ _ h2, x _ _ h3, h4⟩
theorem SAt.mono {H : Hp} {a g c : Addr} {cs : List Int} {n m : Nat} (s : SAt H a g c cs n) (h : n ≤ m) : SAt H a g c cs m := by
  obtain ⟨gs, r, t, h1, h2, h3, h4, h5, h6, h7, h8⟩ := s.ex
  exact ⟨gs, r, t, h1, h2, h3, h4, h5, h6, h7, by omega⟩
def spBegun (K : PySem.W.Frag) : Sp := fun vs H Q _ => ∃ (a : Addr) (ns : List Int), vs = [.ref a] ∧ SqL K H a (ns.map V.int) ∧ ns.length ≤ sizeLine ∧ ∀ H' p g c cs, Grows H H' → SAt H' p g c cs 0 → H p = none → H g = none → Q (.ref p) H'
def spMixed : Sp := fun vs H Q _ => ∃ (a g c : Addr) (cs : List Int) (n : Nat), vs = [.ref a] ∧ SAt H a g c cs n ∧ n ≤ 1000000 ∧ ∀ H' i, 0 ≤ i → SAt H' a g c cs (n + 1) → (∀ b o, H b = some o → b ≠ a → H' b = some o) → Q (.int i) H'
def spDraw : Sp := fun vs H Q _ => ∃ (a g c : Addr) (cs : List Int) (n : Nat) (m : Int), vs = [.ref a, .int m] ∧ SAt H a g c cs n ∧ n ≤ 1000000 ∧ 1 ≤ m ∧ m ≤ 1000000 ∧ ∀ H' i, 0 ≤ i → i < m → SAt H' a g c cs (n + 1) → But H H' a g → Q (.int i) H'
section
variable {P : Program} {w : World} {K : PySem.W.Frag} {mg : Str → Option Value} {base : Heap}
theorem scMixed : FnScope ["state", "turn", "found", "prime", "blend", "cell"] ["state"] (defScope sMixed) := ⟨rfl, rfl, rfl, by decide +kernel, rfl, by decide +kernel, by decide +kernel⟩
theorem ok_mixed {f : Addr} {fd : FuncData} (F : L2.Fun K "_law_mixed" "_law_mixed" sMixed f fd) (B : Blt mg) : FnOk P w K mg base CX0 1 f fd ["state"] spMixed := by
  refine F.ok scMixed (fun vs H Q E h => ?_) (fun cdv A outer s H vs Q E hr h => ⟨_,
    pss_cons (ps_par (i := 1) (j := 2) rfl scMixed.nd rfl rfl (by decide) rfl rfl (pa_cons (pe_op op_add (pe_dget (hu_of hr) (pv 0) pe_str (fun _ _ => rfl)) pe_int) (pa_cons pe_int pa_nil)) (by rfl))
    (pss_cons (ps_dput (hu_of hr) (pv 0) pe_str (pv 1) rfl)
    (pss_cons (ps_for PassesOwn.never rfl (pi_list (pe_lst (pa_cons pe_int (pa_cons pe_int (pa_cons pe_int (pa_cons pe_int pa_nil)))))) (pg_name (i := 3) scMixed.nd rfl (Or.inl rfl))
      (pss_cons (ps_set (i := 4) scMixed.nd rfl (Or.inl rfl) (pe_op op_add (pe_op op_mul pe_int (pv 1)) (pe_op op_fdivN (pv 3) pe_int)))
      (pss_cons (ps_for PassesOwn.never rfl (pi_list (pe_dget (hu_of hr) (pv 0) pe_str (fun _ _ => rfl))) (pg_name (i := 5) scMixed.nd rfl (Or.inl rfl))
        (pss_one (ps_set (i := 4) scMixed.nd rfl (Or.inl rfl) (pe_op op_modN (pe_callTy call_int1 (by rfl) B.int (by decide +kernel) (pa_cons (pe_op op_add (pe_op op_add (pe_op op_mul (pv 4) pe_int) (pv 5)) (pv 1)) pa_nil)) (pv 3)))))
      (pss_one (ps_set (i := 2) scMixed.nd rfl (Or.inl rfl) (pe_op op_add (pe_op op_mul (pv 2) pe_int) (pe_op op_modN (pe_callTy call_int1 (by rfl) B.int (by decide +kernel) (pa_cons (pe_op op_pow (pv 4) pe_int) pa_nil)) (pv 3))))))))
    (pss_one (ps_ret (pv 2))))), ?_⟩)
  · obtain ⟨a, g, c, cs, n, rfl, _⟩ := h
    rfl
  · obtain ⟨a, g, c, cs, n, rfl, hs, hn, q⟩ := h
    obtain ⟨gs, r, t, h1, h2, h3, h4, h5, h6, h7, h8⟩ := hs.ex
    have ag : g ≠ a := ne_of h2 h1 (by intro z; cases z)
    have ac : c ≠ a := ne_of h3 h1 (by intro z; cases z)
    refine ⟨_, rfl, a, _, rfl, (st_turn g c r t) ▸ DGet.k (k := .inr "turn") h1, t, 1, rfl, rfl, _, _, rfl, ?_⟩
    refine ⟨_, rfl, _, rfl, a, _, rfl, DPut.k (k := .inr "turn") h1 (by show 4 < sizeLine; decide), ?_⟩
    rw [st_putT]
    generalize hH1 : upd H a (.dK (stD g c r (t + 1))) = H1
    have k1 : H1 a = some (.dK (stD g c r (t + 1))) := by rw [← hH1, upd_same]
    have o1 : ∀ b o, H b = some o → b ≠ a → H1 b = some o := fun b o e hb => by rw [← hH1, upd_ne hb]; exact e
    have s1 : SAt H1 a g c cs (n + 1) := ⟨gs, r, t + 1, k1, o1 _ _ h2 ag, o1 _ _ h3 ac, h4, h5, h6, by omega, by omega⟩
    refine ⟨by show 4 ≤ sizeLine; decide, fun L nL => ?_⟩
    have gL : Grows H1 (upd H1 L (.lst [.int 2147483549, .int 2147483543, .int 2147483497, .int 2147483489])) := Grows.new nL
    have kL : upd H1 L (.lst [.int 2147483549, .int 2147483543, .int 2147483497, .int 2147483489]) L = some (.lst ([2147483549, 2147483543, 2147483497, 2147483489].map V.int)) := by rw [upd_same]; rfl
    generalize upd H1 L (.lst [.int 2147483549, .int 2147483543, .int 2147483497, .int 2147483489]) = H2 at gL kL ⊢
    have s2 := s1.grows gL
    have c2 := gL _ _ (o1 _ _ h3 ac)
    have a2 := gL _ _ k1
    refine ⟨L, rfl, ⟨_, .inl (.inl kL)⟩, for_list (K := K) (a := L) (xs := [2147483549, 2147483543, 2147483497, 2147483489].map V.int) (fun i σ H' => H' = H2 ∧ ∃ (fo : Int) (v1 v2 v3 : Option V), 0 ≤ fo ∧ σ = [some (.ref a), some (.int (t + 1)), some (.int fo), v1, v2, v3])
      ⟨rfl, 0, none, none, none, Int.le_refl _, rfl⟩ (fun i σ H' _ ⟨e, _⟩ => by rw [e]; exact .inl (.inl kL)) ?_ ?_⟩
    · rintro i x σ H' hi ⟨rfl, fo, v1, v2, v3, hfo, rfl⟩
      obtain ⟨z, hz, rfl, hz1, hz2⟩ : ∃ z, [(2147483549 : Int), 2147483543, 2147483497, 2147483489][i]? = some z ∧ x = .int z ∧ 2147483489 ≤ z ∧ z ≤ 2147483549 := by
        rw [List.getElem?_map] at hi
        cases e : [(2147483549 : Int), 2147483543, 2147483497, 2147483489][i]? with
        | none => rw [e] at hi; cases hi
        | some z =>
          rw [e] at hi
          refine ⟨z, rfl, (Option.some.inj hi).symm, ?_⟩
          have hm := List.mem_of_getElem? e
          simp only [List.mem_cons, List.not_mem_nil, or_false] at hm
          omega
      have hdiv : (0 : Int) ≤ z.fdiv 41 ∧ z.fdiv 41 ≤ 2147483549 := by
        rw [Int.fdiv_eq_ediv_of_nonneg _ (by decide : (0 : Int) ≤ 41)]
        omega
      refine ⟨_, rfl, _, _, rfl, rfl, .inl ⟨by decide, by decide⟩, _, rfl, z, 41, rfl, rfl, ⟨by decide, by decide⟩, _, _, rfl, rfl, ?_⟩
      have hz0 : (0 : Int) < z := by omega
      have md : ∀ y : Int, 0 ≤ y.fmod z ∧ y.fmod z < z := fun y => by
        rw [Int.fmod_eq_emod_of_nonneg _ (Int.le_of_lt hz0)]
        exact ⟨Int.emod_nonneg _ (by omega), Int.emod_lt_of_pos _ hz0⟩
      refine ⟨_, rfl, a, _, rfl, (st_cells g c r (t + 1)) ▸ DGet.k (k := .inr "cells") a2, c, rfl, ⟨_, .inl (.inl c2)⟩, for_list (K := K) (a := c) (xs := cs.map V.int) (fun i σ H'' => H'' = H' ∧ ∃ (bl : Int) (v3 : Option V), 0 ≤ bl ∧ bl < 2 ^ 60 ∧ σ = [some (.ref a), some (.int (t + 1)), some (.int fo), some (.int z), some (.int bl), v3])
        ⟨rfl, 69621 * (t + 1) + z.fdiv 41, v3, by omega, by omega, rfl⟩ (fun i σ H'' _ ⟨e, _⟩ => by rw [e]; exact .inl (.inl c2)) ?_ ?_⟩
      · rintro i x σ H'' hi ⟨rfl, bl, v3, hb1, hb2, rfl⟩
        obtain ⟨y, rfl⟩ : ∃ y, x = .int y := by
          rw [List.getElem?_map] at hi
          cases e : cs[i]? with
          | none => rw [e] at hi; cases hi
          | some y => rw [e] at hi; exact ⟨y, (Option.some.inj hi).symm⟩
        obtain ⟨m1, m2⟩ := md (bl * 48271 + y + (t + 1))
        refine ⟨_, rfl, _, _, rfl, rfl, .inr ⟨by decide, by decide⟩, _, rfl, _, _, rfl, rfl, _, rfl, _, _, rfl, rfl, .inl ⟨_, rfl, _, rfl, _, _, rfl, rfl, by omega, ?_⟩⟩
        exact ⟨rfl, _, some (.int y), m1, by omega, rfl⟩
      · rintro σ H'' ⟨rfl, bl, v3, hb1, hb2, rfl⟩
        obtain ⟨m1, m2⟩ := md (bl ^ 5)
        refine ⟨_, rfl, _, _, rfl, rfl, .inr ⟨by decide, by decide⟩, _, rfl, _, _, rfl, rfl, ⟨by decide, by decide, by omega⟩, .inl ⟨_, rfl, _, rfl, _, _, rfl, rfl, by omega, _, _, rfl, rfl, ?_⟩⟩
        exact ⟨rfl, _, some (.int z), some (.int bl), v3, by
          have : (0 : Int) ≤ fo * 2147483659 := Int.mul_nonneg hfo (by decide)
          exact Int.add_nonneg this m1, rfl⟩
    · rintro σ H' ⟨rfl, fo, v1, v2, v3, hfo, rfl⟩
      exact ⟨_, rfl, q H' fo hfo s2 fun b o e hb => gL _ _ (o1 b o e hb)⟩
theorem scDraw : FnScope ["state", "room", "found"] ["state", "room"] (defScope sDraw) := ⟨rfl, rfl, rfl, by decide +kernel, rfl, by decide +kernel, by decide +kernel⟩
theorem dp_ints {H : Hp} : ∀ {l : List Int}, DpAll K H (l.map V.int) (l.map PyData.int)
  | [] => .nil
  | x :: l => .cons (.int x) dp_ints
theorem shaped_ints (l : List Int) : SeqAt.shaped (.list (l.map PyData.int)) = true := by
  have e : ∀ l : List Int, PyData.canLayAll0 (l.map PyData.int) = true := fun l => by
    induction l with
    | nil => rfl
    | cons x l ih => simp [PyData.canLayAll0, PyData.canLay0, ih]
  have d : PyData.depth (.list (l.map PyData.int)) ≤ 64 := by
    rw [PyData.depth, PySem.W.depth_ints]
    decide
  unfold SeqAt.shaped
  rw [Bool.and_eq_true]
  exact ⟨by rw [PyData.canLay0]; exact e l, decide_eq_true d⟩
theorem eqv_nil (l : List Int) : PyData.eqv (.list (l.map PyData.int)) (.list []) = decide (l = []) := by
  cases l <;> rfl
def rInt1 : List V → Hp → VK → Prop := fun xs H Q => (∃ i, xs = [.int i] ∧ Q (.int i) H) ∨ ∃ k, xs = [.bl k] ∧ Q (.int (if k then 1 else 0)) H
/-- found = int(state['rest']) % room; state['rest'] = state['rest'] // room; return found -/
def t_fin : TS := tSeq (tAsg (tOp (rI (fun _ j => j ≠ 0) fun i j => .int (i.fmod j)) (tCB rInt1 (tCons (tDGet (tVar 0) (tC (.str "rest"))) tNil)) (tVar 1)) (gName 2))
  (tSeq (sDPut (tVar 0) (tC (.str "rest")) (tOp (rI CDivN fun i j => .int (i.fdiv j)) (tDGet (tVar 0) (tC (.str "rest"))) (tVar 1))) (tRet (tVar 2)))
theorem draw_fin {H H1 : Hp} {a g c : Addr} {cs gs : List Int} {n : Nat} {m r t : Int} {Q : VK} (hm1 : 1 ≤ m) (hm2 : m ≤ 1000000) (h4 : g ≠ c) (ag : g ≠ a) (ac : c ≠ a) (q : ∀ H' i, 0 ≤ i → i < m → SAt H' a g c cs (n + 1) → But H H' a g → Q (.int i) H')
    (hb : But H H1 a g) (k1 : H1 a = some (.dK (stD g c r t))) (k2 : H1 g = some (.lst (gs.map V.int))) (k3 : H1 c = some (.lst (cs.map V.int))) (k5 : ∀ z ∈ gs, 0 ≤ z) (k6 : 0 ≤ r) (k7 : 0 ≤ t) (k8 : t ≤ ((n + 1 : Nat) : Int)) :
    t_fin { nx := fun _ H' => Q .non H', rt := Q } [some (.ref a), some (.int m), none] H1 := by
  have hm0 : (0 : Int) < m := by omega
  refine ⟨_, rfl, a, _, rfl, (st_rest g c r t) ▸ DGet.k (k := .inr "rest") k1, .inl ⟨_, rfl, _, rfl, _, _, rfl, rfl, by omega, ?_⟩⟩
  refine ⟨_, rfl, a, _, rfl, (st_rest g c r t) ▸ DGet.k (k := .inr "rest") k1, _, rfl, _, _, rfl, rfl, ⟨by omega, by omega⟩, ?_⟩
  refine ⟨_, rfl, a, _, rfl, DPut.k (k := .inr "rest") k1 (by show 4 < sizeLine; decide), ?_⟩
  rw [st_putR]
  have e1 : r.fmod m = r % m := Int.fmod_eq_emod_of_nonneg _ (Int.le_of_lt hm0)
  have e2 : r.fdiv m = r / m := Int.fdiv_eq_ediv_of_nonneg _ (Int.le_of_lt hm0)
  refine ⟨_, rfl, q _ _ (by rw [e1]; exact Int.emod_nonneg _ (by omega)) (by rw [e1]; exact Int.emod_lt_of_pos _ hm0) ⟨gs, r.fdiv m, t, upd_same, by rw [upd_ne ag]; exact k2, by rw [upd_ne ac]; exact k3, h4, k5, by rw [e2]; exact Int.ediv_nonneg k6 (Int.le_of_lt hm0), k7, k8⟩ fun b o e n1 n2 => ?_⟩
  rw [upd_ne n1]
  exact hb b o e n1 n2
theorem ok_draw {f f1 : Addr} {fd fd1 : FuncData} (F : L2.Fun K "_law_draw" "_law_draw" sDraw f fd) (B : Blt mg) (G : FnOk P w K mg base CX0 1 f1 fd1 ["state"] spMixed) (D : Def mg K "_law_mixed" f1 fd1 ["state"]) : FnOk P w K mg base CX0 2 f fd ["state", "room"] spDraw := by
  refine F.ok scDraw (fun vs H Q E h => ?_) (fun cdv A outer s H vs Q E hr h => ⟨_,
    pss_cons (ps_if (pt_cmpR op_eq (pe_dget (hu_of hr) (pv 0) pe_str (fun _ _ => rfl)) pe_int (nomark _))
      (pss_one (ps_dput (hu_of hr) (pv 0) pe_str (pe_ifExp (pt_cmpR (op_neD (by have := hr.un; show (A.deeper _).units + 64 < _; omega)) (pe_dget (hu_of hr) (pv 0) pe_str (fun _ _ => rfl)) (pe_lst pa_nil) (nomark _))
        (pe_bm PySem.F.plainAttrs_list PySem.F.slot_list_pop PySem.F.type_list_pop mt_popAt (pe_dget (hu_of hr) (pv 0) pe_str (fun _ _ => rfl)) (pa_cons pe_int pa_nil))
        (pe_call G hr (by rfl) D.g D.k D.b .nil pass0 (pa_cons (pv 0) pa_nil))) rfl)) pss_nil)
    (pss_cons (ps_set (i := 2) scDraw.nd rfl (Or.inl rfl) (pe_op op_modN (pe_callTy call_int1 (by rfl) B.int (by decide +kernel) (pa_cons (pe_dget (hu_of hr) (pv 0) pe_str (fun _ _ => rfl)) pa_nil)) (pv 1)))
    (pss_cons (ps_dput (hu_of hr) (pv 0) pe_str (pe_op op_fdivN (pe_dget (hu_of hr) (pv 0) pe_str (fun _ _ => rfl)) (pv 1)) rfl)
    (pss_one (ps_ret (pv 2))))), ?_⟩)
  · obtain ⟨a, g, c, cs, n, m, rfl, _⟩ := h
    rfl
  · obtain ⟨a, g, c, cs, n, m, rfl, hs, hn, hm1, hm2, q⟩ := h
    obtain ⟨gs, r, t, h1, h2, h3, h4, h5, h6, h7, h8⟩ := hs.ex
    have ag : g ≠ a := ne_of h2 h1 (by intro z; cases z)
    have ac : c ≠ a := ne_of h3 h1 (by intro z; cases z)
    have hm0 : (0 : Int) < m := by omega
    have fin := fun (H1 : Hp) gs r t => draw_fin (H1 := H1) (n := n) (gs := gs) (r := r) (t := t) hm1 hm2 h4 ag ac q
    refine ⟨_, rfl, a, _, rfl, (st_rest g c r t) ▸ DGet.k (k := .inr "rest") h1, rfl, _, rfl, ?_⟩
    by_cases hr0 : r = 0
    · refine if_pos_of (decide_eq_true (congrArg V.int hr0)) ?_
      refine ⟨_, rfl, a, _, rfl, (st_great g c r t) ▸ DGet.k (k := .inr "great") h1, by show 0 ≤ sizeLine; decide, fun p np => ?_⟩
      have gp : Grows H (upd H p (.lst [])) := Grows.new np
      have kp : upd H p (.lst []) p = some (.lst []) := upd_same
      generalize upd H p (.lst []) = H2 at gp kp ⊢
      refine ⟨.list (gs.map PyData.int), .list [], .lst (.inl (.inl (gp _ _ h2))) dp_ints, .lst (.inl (.inl kp)) .nil, shaped_ints gs, rfl, _, rfl, ?_⟩
      rw [eqv_nil]
      cases gs with
      | nil =>
        refine if_neg_of (by decide) ?_
        refine ⟨_, rfl, a, g, c, cs, n, rfl, hs.grows gp, hn, fun H3 i hi s3 hk3 => ?_⟩
        obtain ⟨gs', r', t', k1, k2, k3, k4, k5, k6, k7, k8⟩ := s3.ex
        refine ⟨_, rfl, a, _, rfl, DPut.k (k := .inr "rest") k1 (by show 4 < sizeLine; decide), ?_⟩
        rw [st_putR]
        refine fin (upd H3 a (.dK (stD g c i t'))) gs' i t' (fun b o e n1 n2 => ?_) upd_same (by rw [upd_ne ag]; exact k2) (by rw [upd_ne ac]; exact k3) k5 hi k7 k8
        rw [upd_ne n1]
        exact hk3 b o (gp b o e) n1
      | cons y gs =>
        refine if_pos_of (by rw [decide_eq_false (by simp)]; decide) ?_
        refine ⟨_, rfl, a, .ref g, rfl, (st_great g c r t) ▸ DGet.k (k := .inr "great") (gp _ _ h1), Or.inl ⟨rfl, _, .inl (.inl (gp _ _ h2))⟩, g, _, 0, 0, .int y, rfl, rfl, gp _ _ h2, by decide, by decide, by simp [seqIndex?], rfl, ?_⟩
        refine ⟨_, rfl, a, _, rfl, DPut.k (k := .inr "rest") (show upd H2 g _ a = _ from (upd_ne ag.symm).trans (gp _ _ h1)) (by show 4 < sizeLine; decide), ?_⟩
        rw [st_putR]
        refine fin (upd (upd H2 g (.lst ((gs.map V.int)))) a (.dK (stD g c y t))) gs y t (fun b o e n1 n2 => ?_) upd_same (by rw [upd_ne ag, upd_same]) (by rw [upd_ne ac, upd_ne h4.symm]; exact gp _ _ h3) (fun z hz => h5 z (List.mem_cons_of_mem _ hz)) (h5 y List.mem_cons_self) h7 (by omega)
        rw [upd_ne n1, upd_ne n2]
        exact gp b o e
    · refine if_neg_of (by rw [decide_eq_false (fun z => hr0 (V.int.inj z))]; decide) ?_
      exact fin H gs r t (But.refl H a g) h1 h2 h3 h5 h6 h7 (by omega)
def spPick : Sp := fun vs H Q _ => ∃ (a g c l : Addr) (cs : List Int) (n : Nat) (xs : List V), vs = [.ref a, .ref l] ∧ SAt H a g c cs n ∧ n ≤ 1000000 ∧ H l = some (.lst xs) ∧ l ≠ g ∧ xs ≠ [] ∧ xs.length ≤ 1000000 ∧ ∀ H' x, x ∈ xs → SAt H' a g c cs (n + 1) → But H H' a g → Q x H'
def absI : V → Int
  | .int i => if i < 0 then -i else i
  | _ => 0
theorem absI_nn (v : V) : 0 ≤ absI v := by
  cases v <;> (unfold absI; try exact Int.le_refl _)
  split <;> omega
theorem scPick : FnScope ["state", "some"] ["state", "some"] (defScope sPick) := ⟨rfl, rfl, rfl, by decide +kernel, rfl, by decide +kernel, by decide +kernel⟩
theorem ok_pick {f f1 : Addr} {fd fd1 : FuncData} (F : L2.Fun K "_law_pick" "_law_pick" sPick f fd) (B : Blt mg) (G : FnOk P w K mg base CX0 2 f1 fd1 ["state", "room"] spDraw) (D : Def mg K "_law_draw" f1 fd1 ["state", "room"]) : FnOk P w K mg base CX0 3 f fd ["state", "some"] spPick := by
  refine F.ok scPick (fun vs H Q E h => ?_) (fun cdv A outer s H vs Q E hr h => ⟨_,
    pss_one (ps_ret (pe_ix ix_list (pv 1) (pe_call G hr (by rfl) D.g D.k D.b .nil pass0 (pa_cons (pv 0) (pa_cons (pe_callB call_len_seq (by rfl) B.len PySem.boot_len (pa_cons (pv 1) pa_nil)) pa_nil))) (fun _ _ => rfl))), ?_⟩)
  · obtain ⟨a, g, c, l, cs, n, xs, rfl, _⟩ := h
    rfl
  · obtain ⟨a, g, c, l, cs, n, xs, rfl, hs, hn, hl, lg, hne, hlen, q⟩ := h
    have la : l ≠ a := by
      obtain ⟨gs, r, t, h1, _⟩ := hs.ex
      exact ne_of hl h1 (by intro z; cases z)
    have hpos : 0 < xs.length := List.length_pos_iff.mpr hne
    refine ⟨_, rfl, _, rfl, _, rfl, l, xs, rfl, .inl (.inl (.inl hl)), a, g, c, cs, n, _, rfl, hs, hn, by omega, by omega, fun H' i hi hlt s' hb => ?_⟩
    obtain ⟨k, rfl⟩ : ∃ k : Nat, i = k := ⟨i.toNat, by omega⟩
    have hk : k < xs.length := by omega
    exact ⟨l, xs, k, xs[k], rfl, rfl, .inl (.inl (hb l _ hl la lg)), atI_nat (List.getElem?_eq_getElem hk), q H' _ (List.getElem_mem hk) s' hb⟩
theorem scBegun : FnScope ["script", "great", "cell"] ["script"] (defScope sBegun) := ⟨rfl, rfl, rfl, by decide +kernel, rfl, by decide +kernel, by decide +kernel⟩
theorem ok_begun {f : Addr} {fd : FuncData} (F : L2.Fun K "_law_begun" "_law_begun" sBegun f fd) (B : Blt mg) : FnOk P w K mg base CX0 1 f fd ["script"] (spBegun K) := by
  refine F.ok scBegun (fun vs H Q E h => ?_) (fun cdv A outer s H vs Q E hr h => ⟨_,
    pss_cons (ps_setLc (i := 1) (own := [("cell", 2)]) (g := gName 2) rfl scBegun.nd rfl rfl (sw_true rfl rfl rfl (by decide +kernel)) (pi_list (pv 0)) (blkOk_by (N := ["script", "great", "cell"]) (sc := defScope sBegun) (by decide +kernel)) (fun _ _ _ _ _ => pg_name (i := 2) scBegun.nd rfl (Or.inl rfl))
        (fun _ _ _ _ _ => pts_one (pt_cmpR op_ge (pe_callB call_abs (by rfl) B.abs (by decide +kernel) (pa_cons (pv 2) pa_nil)) (pe_op op_pow pe_int pe_int) (nomark _)))
        (fun _ _ _ _ _ => pe_op op_sub (pe_callB call_abs (by rfl) B.abs (by decide +kernel) (pa_cons (pv 2) pa_nil)) (pe_op op_pow pe_int pe_int)))
    (pss_one (ps_ret (pe_disp (pps_cons pe_str (pv 1) (pps_cons pe_str
        (pe_lc (own := [("cell", 2)]) (g := gName 2) (tt := tYes) rfl scBegun.nd (pi_list (pv 0)) (blkOk_by (N := ["script", "great", "cell"]) (sc := defScope sBegun) (by decide +kernel)) (fun _ _ _ _ _ => pg_name (i := 2) scBegun.nd rfl (Or.inl rfl)) (fun _ _ _ _ _ => pts_nil)
          (fun _ _ _ _ _ => pe_callB call_abs (by rfl) B.abs (by decide +kernel) (pa_cons (pv 2) pa_nil)))
        (pps_cons pe_str pe_int (pps_cons pe_str pe_int pps_nil)))) (by rfl) (by rfl) (by simp) (by decide)))), ?_⟩)
  · obtain ⟨a, ns, rfl, _⟩ := h
    rfl
  · obtain ⟨a, ns, rfl, hs, hn, q⟩ := h
    have hlen : (ns.map V.int).length ≤ sizeLine := by rw [List.length_map]; exact hn
    refine ⟨_, rfl, a, rfl, ⟨_, hs⟩, fun g0 ng => comp (xs := ns.map V.int) walk_list (fun v => decide ((10 : Int) ^ (18 : Int).toNat ≤ absI v)) (fun v => .int (absI v - (10 : Int) ^ (18 : Int).toNat)) ng (fun H g => g.l hs) hlen
      (fun x H k hx g hk => ?_) (fun x H Q hx hp g hq => ?_) (fun H1 g1 hg1 => ?_)⟩
    · obtain ⟨z, _, rfl⟩ := List.mem_map.mp hx
      exact ⟨_, rfl, z, rfl, _, _, rfl, rfl, ⟨by decide, by decide, by decide⟩, _, _, rfl, rfl, _, rfl, hk H (Grows.refl H)⟩
    · obtain ⟨z, _, rfl⟩ := List.mem_map.mp hx
      exact ⟨_, rfl, z, rfl, _, _, rfl, rfl, ⟨by decide, by decide, by decide⟩, _, _, rfl, rfl, hq H (Grows.refl H)⟩
    · intro p np
      have np0 : H p = none := by
        cases e : H p with
        | none => rfl
        | some o => rw [g1 _ _ e] at np; cases np
      have gp : Grows H1 (upd H1 p (.dK [])) := Grows.new np
      have kp : upd H1 p (.dK []) p = some (.dK []) := upd_same
      generalize upd H1 p (.dK []) = H2 at gp kp ⊢
      have g2 := g1.trans gp
      refine ⟨_, rfl, ?_⟩
      refine ⟨_, rfl, a, rfl, ⟨_, g2.l hs⟩, fun c0 nc => comp (xs := ns.map V.int) walk_list (fun _ => true) (fun v => .int (absI v)) nc (fun H g => (g2.trans g).l hs) hlen (fun x H k hx g hk => hk H (Grows.refl H)) (fun x H Q hx hp g hq => ?_) (fun H3 g3 hg3 => ?_)⟩
      · obtain ⟨z, _, rfl⟩ := List.mem_map.mp hx
        exact ⟨_, rfl, z, rfl, hq H (Grows.refl H)⟩
      · rw [filter_yes] at hg3
        refine ⟨g3 _ _ kp, stD g0 c0 0 0, rfl, by show 4 ≤ 15; decide, ?_⟩
        rw [st_new]
        have gP : g0 ≠ p := ne_of (gp _ _ hg1) kp (by intro z; cases z)
        have cP : c0 ≠ p := ne_of hg3 (g3 _ _ kp) (by intro z; cases z)
        have gc : g0 ≠ c0 := ne_of_none (gp _ _ hg1) nc
        refine q _ p g0 c0 ((ns.map V.int).map absI) (fun b o e => ?_) ⟨((ns.map V.int).filter fun v => decide ((10 : Int) ^ (18 : Int).toNat ≤ absI v)).map (fun v => absI v - (10 : Int) ^ (18 : Int).toNat), 0, 0, upd_same, ?_, ?_, gc, ?_, by decide, by decide, by decide⟩ np0 ng
        · rw [upd_ne (ne_of_none e np0)]
          exact g3 _ _ (g2 _ _ e)
        · rw [upd_ne gP, g3 _ _ (gp _ _ hg1), List.map_map]
          rfl
        · rw [upd_ne cP, hg3]
          simp only [List.map_map]
          rfl
        · intro z hz
          obtain ⟨v, hv, rfl⟩ := List.mem_map.mp hz
          have := of_decide_eq_true (List.mem_filter.mp hv).2
          omega
end
end SWL
set_option Elab.async false
set_option linter.all false
set_option maxRecDepth 100000
set_option maxHeartbeats 4000000
namespace SWL
open PySem PySem.Spec PyProof.Rows L2 LamX
theorem pe_no {X : Cx} {e : Expr} : PE X e (fun _ _ _ => False) := ⟨fun _ _ _ _ _ _ h => h.elim⟩
theorem pss_no {X : Cx} {b : List Stmt} : PSs X b (fun _ _ _ => False) := ⟨fun _ _ _ _ _ _ h => h.elim⟩
def spPlain (K : PySem.W.Frag) (k : Nat) : Sp := fun vs H Q _ => ∃ x d, vs = [x] ∧ Dp K H x d ∧ d.depth < k ∧ ∀ H', Grows H H' → Q (.bl true) H'
section
variable {P : Program} {w : World} {K : PySem.W.Frag} {mg : Str → Option Value} {base : Heap}
theorem scPlain : FnScope ["value", "one"] ["value"] (defScope sPlain) := ⟨rfl, rfl, rfl, by decide +kernel, rfl, by decide +kernel, by decide +kernel⟩
theorem dpall_mem {H : Hp} : ∀ {xs : List V} {ds : List PyData}, DpAll K H xs ds → ∀ x ∈ xs, ∃ d, Dp K H x d ∧ d.depth ≤ PyData.depthAll ds
  | _, _, .nil, x, hx => by cases hx
  | _, _, .cons (d := d) (ds := ds) h t, x, hx => by
    rcases List.mem_cons.mp hx with rfl | hx
    · exact ⟨d, h, by rw [PyData.depthAll]; omega⟩
    · obtain ⟨d', h1, h2⟩ := dpall_mem t x hx
      exact ⟨d', h1, by rw [PyData.depthAll]; omega⟩
theorem ok_plain {f : Addr} {fd : FuncData} (F : L2.Fun K "_law_plain" "_law_plain" sPlain f fd) (B : Blt mg) (D : Def mg K "_law_plain" f fd ["value"]) : ∀ k : Nat, FnOk P w K mg base CX0 (k + 1) f fd ["value"] (spPlain K k)
  | 0 => F.ok scPlain (fun vs H Q E h => by obtain ⟨x, d, rfl, _⟩ := h; rfl) (fun cdv A outer s H vs Q E hr h => by
      obtain ⟨x, d, _, _, z, _⟩ := h
      exact absurd z (Nat.not_lt_zero _))
  | k + 1 => by
    have G := ok_plain F B D k
    refine F.ok scPlain (fun vs H Q E h => by obtain ⟨x, d, rfl, _⟩ := h; rfl) (fun cdv A outer s H vs Q E hr h => ⟨_,
      pss_cons (ps_if (pt_truth (pe_callB call_isiT (by rfl) B.isi (by decide +kernel) (pa_cons (pv 0) (pa_cons (pe_tup (pa_cons (pe_bltn (u := .type "list") (v := .ty "list") (by rfl) B.list (by decide +kernel) rfl) (pa_cons (pe_bltn (u := .type "tuple") (v := .ty "tuple") (by rfl) B.tuple (by decide +kernel) rfl) pa_nil))) pa_nil))) (by intro _; rfl))
        (pss_one (ps_ret (pe_cmpR (op_eqD (by have := hr.un; show (A.deeper _).units + 64 < _; omega)) (pe_lc (own := [("one", 1)]) (g := gName 1) (tt := tNot fun σ H Q => tCall (spPlain K k) [] E0 (tCons (tVar 1) tNil) σ H fun x H' => ∃ k, TruV K x H' k ∧ Q k H') rfl scPlain.nd (pi_or (pi_list (pv 0)) (pi_tup (pv 0))) (blkOk_by (N := ["value", "one"]) (sc := defScope sPlain) (by decide +kernel)) (fun _ _ _ _ _ => pg_name (i := 1) scPlain.nd rfl (Or.inl rfl))
          (fun _ _ _ _ _ => pts_one (pt_not (pt_truth (pe_call G hr (by rfl) D.g D.k D.b .nil pass0 (pa_cons (pv 1) pa_nil)) (by intro _; rfl)))) (fun _ _ _ _ _ => pe_int)) (pe_lst pa_nil) (nomark _)))) pss_nil)
      (pss_cons (ps_if (pt_truth (pe_callB call_isi (by rfl) B.isi (by decide +kernel) (pa_cons (pv 0) (pa_cons (pe_bltn (u := .type "dict") (v := .ty "dict") (by rfl) B.dict (by decide +kernel) rfl) pa_nil))) (by intro _; rfl)) pss_no pss_nil)
      (pss_one (ps_ret (pe_or (pe_cmpR op_isN1 (pv 0) pe_non (nomark _)) (pe_one (pe_callB call_isiT (by rfl) B.isi (by decide +kernel) (pa_cons (pv 0) (pa_cons (pe_tup (pa_cons (pe_bltn (u := .type "int") (v := .ty "int") (by rfl) B.int (by decide +kernel) rfl) (pa_cons (pe_bltn (u := .type "str") (v := .ty "str") (by rfl) B.str (by decide +kernel) rfl) pa_nil))) pa_nil)))))))), ?_⟩)
    obtain ⟨x, d, rfl, hd, hk, q⟩ := h
    refine ⟨_, rfl, by show 2 ≤ sizeLine; decide, fun tp ntp => ?_⟩
    have gt : Grows H (upd H tp (.tup [.ty "list", .ty "tuple"])) := Grows.new ntp
    have kt : upd H tp (.tup [.ty "list", .ty "tuple"]) tp = some (.tup [.ty "list", .ty "tuple"]) := upd_same
    generalize upd H tp (.tup [.ty "list", .ty "tuple"]) = H1 at gt kt ⊢
    have kinds : (∃ (a : Addr) (xs : List V) (ds : List PyData), x = .ref a ∧ Sq K H a xs ∧ DpAll K H xs ds ∧ d.depth = 1 + PyData.depthAll ds) ∨ ∃ t : String, TyX K H x (.type t) ∧ kitB t "list" = some false ∧ kitB t "tuple" = some false ∧ kitB t "dict" = some false ∧ (x = .non ∨ (x ≠ .non ∧ PySem.W.kitAny K (.type t) [.type "int", .type "str"] = some true)) := by
      cases hd with
      | non => exact .inr ⟨"NoneType", .base .non, by decide +kernel, by decide +kernel, by decide +kernel, .inl rfl⟩
      | bl b => exact .inr ⟨"bool", .base (.bl b), by decide +kernel, by decide +kernel, by decide +kernel, .inr ⟨(by intro z; cases z), kitAny_cons (b := true) (kit_ty (by decide +kernel)) (fun z => by cases z) fun _ => rfl⟩⟩
      | int b => exact .inr ⟨"int", .base (.int b), by decide +kernel, by decide +kernel, by decide +kernel, .inr ⟨(by intro z; cases z), kitAny_cons (b := true) (kit_ty (by decide +kernel)) (fun z => by cases z) fun _ => rfl⟩⟩
      | str b => exact .inr ⟨"str", .base (.str b), by decide +kernel, by decide +kernel, by decide +kernel, .inr ⟨(by intro z; cases z), kitAny_cons (b := false) (kit_ty (by decide +kernel)) (fun _ => kitAny_cons (b := true) (kit_ty (by decide +kernel)) (fun z => by cases z) fun _ => rfl) fun z => by cases z⟩⟩
      | lst h1 h2 => exact .inl ⟨_, _, _, rfl, .inl h1, h2, by rw [PyData.depth]; omega⟩
      | tup h1 h2 => exact .inl ⟨_, _, _, rfl, .inr h1, h2, by rw [PyData.depth]; omega⟩
    rcases kinds with ⟨a, xs, ds, rfl, hs, hds, hdep⟩ | ⟨t, ty, k1, k2, k3, k4⟩
    · obtain ⟨t, ty, ka⟩ := ty_sq (gt.sq hs)
      refine ⟨.ref a, tp, _, .type t, [.type "list", .type "tuple"], true, rfl, kt, .cons (.ty _) (.cons (.ty _) .nil), ty, ka, true, rfl, if_pos_of rfl ?_⟩
      have main : ∀ (J : It) (G : Hp → Prop), Walk J xs.length G (YAt xs) → (∀ H', Grows H1 H' → G H') → _ := fun J G wk hG D0 (nD : H1 D0 = none) =>
        compF (σ := [some (.ref a), none]) (i := 1) (te := tC (.int 1)) (tt := tNot fun σ H Q => tCall (spPlain K k) [] E0 (tCons (tVar 1) tNil) σ H fun x H' => ∃ k, TruV K x H' k ∧ Q k H')
          (Qd := fun H2 => tLst tNil [some (.ref a), none] H2 fun y H3 => rEqD K (.ref D0) y H3 fun v H4 => Q v H4) wk (fun _ => false) (fun _ => .int 1) nD hG (by rw [show xs.filter (fun _ => false) = [] from by simp]; exact Nat.zero_le _)
          (fun y H2 kk hy g2 hkk => by
            obtain ⟨d', h1, h2⟩ := dpall_mem hds y hy
            refine ⟨_, rfl, y, d', rfl, (gt.trans g2).dp _ _ h1, by omega, fun H3 g3 => ⟨true, rfl, hkk H3 g3⟩⟩)
          (fun y H2 Q hy hp => by cases hp)
          (fun H2 g2 hD => by
            have e : (xs.filter fun _ => false).map (fun _ => V.int 1) = [] := by simp
            rw [e] at hD
            refine ⟨by show 0 ≤ sizeLine; decide, fun p np => ?_⟩
            exact ⟨.list [], .list [], .lst (.inl (.inl ((Grows.new np) _ _ hD))) .nil, .lst (.inl (.inl upd_same)) .nil, rfl, rfl, q _ ((gt.trans g2).trans (Grows.new np))⟩)
      rcases hs with hs | hs
      · exact .inl ⟨_, rfl, a, rfl, ⟨_, gt.l hs⟩, main _ _ walk_list fun H' g => (gt.trans g).l hs⟩
      · exact .inr ⟨_, rfl, a, rfl, ⟨_, gt.t hs⟩, main _ _ walk_tup fun H' g => (gt.trans g).t hs⟩
    · refine ⟨x, tp, _, .type t, [.type "list", .type "tuple"], false, rfl, kt, .cons (.ty _) (.cons (.ty _) .nil), tyx_grows gt ty, NotSeq.kit k1 k2, false, rfl, if_neg_of (by decide) ?_⟩
      refine ⟨_, rfl, x, .ty "dict", .type t, .type "dict", false, rfl, .ty "dict", tyx_grows gt ty, kit_ty k3, false, rfl, if_neg_of (by decide) ?_⟩
      rcases k4 with e | ⟨e, k4⟩
      · exact ⟨_, rfl, rfl, _, rfl, if_pos_of (decide_eq_true e) (q H1 gt)⟩
      · refine ⟨_, rfl, rfl, _, rfl, if_neg_of (by rw [decide_eq_false e]; decide) ?_⟩
        refine ⟨_, rfl, by show 2 ≤ sizeLine; decide, fun tp2 ntp2 => ?_⟩
        exact ⟨x, tp2, _, .type t, [.type "int", .type "str"], true, rfl, upd_same, .cons (.ty _) (.cons (.ty _) .nil), tyx_grows (gt.trans (Grows.new ntp2)) ty, k4, q _ (gt.trans (Grows.new ntp2))⟩
end
structure GoodD (d : PyData) : Prop where
  lay : d.layable0 = true
  dep : d.depth ≤ 50
  short : d.intsShort 13 = true
  sh : d.showable = true
  nd : d.hasDict = false
theorem GoodD.can {d : PyData} (g : GoodD d) : d.canLay0 = true := by
  have h : (PyData.canLay0 d && decide (PyData.depth d ≤ 64) && decide (PyData.weight d ≤ 2 ^ 20)) = true := g.lay
  simp only [Bool.and_eq_true] at h
  exact h.1.1
theorem GoodD.shaped {d : PyData} (g : GoodD d) : SeqAt.shaped d = true := SeqAt.shaped_of_layable g.lay
section
variable {P : Program} {w : World} {K : PySem.W.Frag} {mg : Str → Option Value} {base : Heap}
theorem scIs : FnScope ["found", "due"] ["found", "due"] (defScope sIs) := ⟨rfl, rfl, rfl, by decide +kernel, rfl, by decide +kernel, by decide +kernel⟩
end
def lotsL : List Str := ["ab", "ab", "ab", "xy", "abc", "a", "bdz"]
def spMoL : Sp := fun vs H Q _ => ∃ (a g c : Addr) (cs : List Int) (n : Nat), vs = [.ref a] ∧ SAt H a g c cs n ∧ n ≤ 1000000 ∧ ∀ H' z, z ∈ lotsL → SAt H' a g c cs (n + 1) → But H H' a g → Q (.str z) H'
section
variable {P : Program} {w : World} {K : PySem.W.Frag} {mg : Str → Option Value} {base : Heap}
theorem scMoL : FnScope ["state"] ["state"] (defScope sMoL) := ⟨rfl, rfl, rfl, by decide +kernel, rfl, by decide +kernel, by decide +kernel⟩
theorem ok_moL {f f1 : Addr} {fd fd1 : FuncData} (F : L2.Fun K "_law_mo_letters" "_law_mo_letters" sMoL f fd) (G : FnOk P w K mg base CX0 3 f1 fd1 ["state", "some"] spPick) (D : Def mg K "_law_pick" f1 fd1 ["state", "some"]) : FnOk P w K mg base CX0 4 f fd ["state"] spMoL := by
  refine F.ok scMoL (fun vs H Q E h => ?_) (fun cdv A outer s H vs Q E hr h => ⟨_,
    pss_one (ps_ret (pe_call G hr (by rfl) D.g D.k D.b .nil pass0 (pa_cons (pv 0) (pa_cons (pe_lst (pa_cons pe_str (pa_cons pe_str (pa_cons pe_str (pa_cons pe_str (pa_cons pe_str (pa_cons pe_str (pa_cons pe_str pa_nil)))))))) pa_nil)))), ?_⟩)
  · obtain ⟨a, g, c, cs, n, rfl, _⟩ := h
    rfl
  · obtain ⟨a, g, c, cs, n, rfl, hs, hn, q⟩ := h
    refine ⟨_, rfl, by show 7 ≤ sizeLine; decide, fun p np => ?_⟩
    obtain ⟨gs, r, t, h1, h2, h3, h4⟩ := hs.ex
    refine ⟨a, g, c, p, cs, n, lotsL.map V.str, rfl, hs.grows (Grows.new np), hn, upd_same, (ne_of_none h2 np).symm, by decide, by decide, fun H' x hx s' hb => ?_⟩
    obtain ⟨z, hz, rfl⟩ := List.mem_map.mp hx
    exact q H' z hz s' ((But.of (Grows.new np)).trans hb)
end
def PyStr (z : Str) : Prop := z.length ≤ sizeLine ∧ PyData.strOk z = true
def dWords (ws : List Str) : PyData := .list (ws.map PyData.str)
theorem dp_strs {K : PySem.W.Frag} {H : Hp} : ∀ {l : List Str}, DpAll K H (l.map V.str) (l.map PyData.str)
  | [] => .nil
  | x :: l => .cons (.str x) dp_strs
theorem can_strs : ∀ {l : List Str}, (∀ z ∈ l, PyData.strOk z = true) → PyData.canLayAll0 (l.map PyData.str) = true
  | [], _ => rfl
  | x :: l, h => by
    have h1 := h x List.mem_cons_self
    have h2 := can_strs fun z hz => h z (List.mem_cons_of_mem x hz)
    simp [PyData.canLayAll0, PyData.canLay0, h1, h2]
theorem dep_strs : ∀ l : List Str, PyData.depthAll (l.map PyData.str) = 0
  | [] => rfl
  | x :: l => by
    rw [List.map_cons, PyData.depthAll, dep_strs l]
    rfl
theorem shaped_strs {l : List Str} (h : ∀ z ∈ l, PyData.strOk z = true) : SeqAt.shaped (dWords l) = true := by
  unfold SeqAt.shaped dWords
  rw [Bool.and_eq_true]
  refine ⟨by rw [PyData.canLay0]; exact can_strs h, decide_eq_true ?_⟩
  rw [PyData.depth, dep_strs]
  decide
theorem eqv_strs_nil (l : List Str) : PyData.eqv (dWords l) (.list []) = decide (l = []) := by
  cases l <;> rfl
end SWL
set_option Elab.async false
set_option linter.all false
set_option maxRecDepth 100000
set_option maxHeartbeats 4000000
namespace SWL
open PySem PySem.Spec PyProof.Rows L2 LamX
/-! parts and ideals, where they lie -/
/-- a part: of a lot or of one letter, and its text -/
structure Part where
  lot : Bool
  text : Str
deriving DecidableEq
def Part.kind (p : Part) : Str := if p.lot then "lot" else "may"
abbrev LP := Addr × Part
def PartAt (K : PySem.W.Frag) (H : Hp) (q : LP) : Prop := SqT K H q.1 [.str q.2.kind, .str q.2.text]
def refsP (I : List LP) : List V := I.map fun q => V.ref q.1
structure IdAt (K : PySem.W.Frag) (H : Hp) (a : Addr) (I : List LP) : Prop where
  seq : SqT K H a (refsP I)
  parts : ∀ q ∈ I, PartAt K H q
theorem PartAt.grows {K : PySem.W.Frag} {H H' : Hp} (g : Grows H H') {q : LP} (h : PartAt K H q) : PartAt K H' q := g.t h
theorem IdAt.grows {K : PySem.W.Frag} {H H' : Hp} (g : Grows H H') {a : Addr} {I : List LP} (h : IdAt K H a I) : IdAt K H' a I := ⟨g.t h.seq, fun q hq => (h.parts q hq).grows g⟩
theorem refs_len (I : List LP) : (refsP I).length = I.length := List.length_map ..
theorem refs_get {I : List LP} {i : Nat} {x : V} (h : (refsP I)[i]? = some x) : ∃ q, I[i]? = some q ∧ x = .ref q.1 := by
  unfold refsP at h
  rw [List.getElem?_map] at h
  cases e : I[i]? with
  | none => rw [e] at h; cases h
  | some q => rw [e] at h; exact ⟨q, rfl, (Option.some.inj h).symm⟩
theorem refs_drop (I : List LP) (k : Nat) : refsP (I.drop k) = (refsP I).drop k := List.map_drop ..
theorem refs_mem {I : List LP} {x : V} (h : x ∈ refsP I) : ∃ q ∈ I, x = .ref q.1 := by
  obtain ⟨q, hq, e⟩ := List.mem_map.mp h
  exact ⟨q, hq, e.symm⟩
theorem kind_lot (p : Part) : decide (p.kind = "lot") = p.lot := by
  unfold Part.kind
  cases p.lot <;> decide +kernel
theorem kind_may (p : Part) : decide (p.kind = "may") = !p.lot := by
  unfold Part.kind
  cases p.lot <;> decide +kernel
theorem kindV_lot (p : Part) : decide (V.str p.kind = V.str "lot") = p.lot := by
  rw [← kind_lot]
  exact decide_eq_decide.mpr ⟨V.str.inj, fun h => by rw [h]⟩
theorem kindV_may (p : Part) : decide (V.str p.kind = V.str "may") = !p.lot := by
  rw [← kind_may]
  exact decide_eq_decide.mpr ⟨V.str.inj, fun h => by rw [h]⟩
theorem kind_in (p : Part) : inV (.str p.kind) [.str "may", .str "lot"] = true := by
  unfold Part.kind
  cases p.lot <;> decide +kernel
/-- all letters of one text are in another -/
def subT (a b : Str) : Bool := a.cps.toList.all fun c => decide (c ∈ b.cps.toList)
def okPart (ls : Str) (p : Part) : Bool := okLetters p.text && subT p.text ls && (p.lot || decide (p.text.length = 1))
def okIdeal (ls : Str) (I : List LP) : Bool := decide (I.length ≤ 60) && I.all fun q => okPart ls q.2
def hasAll (p q : Part) : Bool := p.lot && subT q.text p.text
def pData (p : Part) : PyData := .tuple [.str p.kind, .str p.text]
theorem part_dp {K : PySem.W.Frag} {H : Hp} {q : LP} (h : PartAt K H q) : Dp K H (.ref q.1) (pData q.2) := .tup h (.cons (.str _) (.cons (.str _) .nil))
theorem parts_dp {K : PySem.W.Frag} {H : Hp} : ∀ {I : List LP}, (∀ q ∈ I, PartAt K H q) → DpAll K H (refsP I) (I.map fun q => pData q.2)
  | [], _ => .nil
  | q :: I, h => .cons (part_dp (h q List.mem_cons_self)) (parts_dp fun z hz => h z (List.mem_cons_of_mem q hz))
theorem kind_ok (p : Part) : PyData.strOk p.kind = true := by
  unfold Part.kind
  cases p.lot <;> decide +kernel
def TextOk (p : Part) : Prop := p.text.length ≤ 1000 ∧ PyData.strOk p.text = true
theorem pData_can {p : Part} (h : TextOk p) : (pData p).canLay0 = true := by
  have h1 := kind_ok p
  have h2 := h.2
  simp [pData, PyData.canLayAll0, PyData.canLay0, h1, h2]
theorem pDatas_can : ∀ {I : List LP}, (∀ q ∈ I, TextOk q.2) → PyData.canLayAll0 (I.map fun q => pData q.2) = true
  | [], _ => rfl
  | q :: I, h => by
    have h1 := pData_can (h q List.mem_cons_self)
    have h2 := pDatas_can fun z hz => h z (List.mem_cons_of_mem q hz)
    simp [PyData.canLayAll0, h1, h2]
theorem pData_depth (p : Part) : (pData p).depth = 1 := rfl
theorem pDatas_depth : ∀ I : List LP, PyData.depthAll (I.map fun q => pData q.2) ≤ 1
  | [] => Nat.zero_le _
  | q :: I => by
    have := pDatas_depth I
    rw [List.map_cons, PyData.depthAll, pData_depth]
    omega
theorem pData_shaped {p : Part} (h : TextOk p) : SeqAt.shaped (pData p) = true := by
  unfold SeqAt.shaped
  rw [Bool.and_eq_true]
  exact ⟨pData_can h, decide_eq_true (by rw [pData_depth]; decide)⟩
theorem eqv_part (p q : Part) : PyData.eqv (pData p) (pData q) = decide (p = q) := by
  have e : PyData.eqv (pData p) (pData q) = (decide (p.kind = q.kind) && decide (p.text = q.text)) := by
    simp only [pData, PyData.eqv, PyData.eqvAll, Bool.and_true]
    rw [Bool.eq_iff_iff]
    simp only [Bool.and_eq_true, beq_iff_eq, decide_eq_true_eq]
  rw [e, ← Bool.decide_and]
  refine decide_eq_decide.mpr ⟨fun ⟨h1, h2⟩ => ?_, fun h => by rw [h]; exact ⟨rfl, rfl⟩⟩
  cases p with | mk a b => cases q with | mk c d =>
  have e1 : a = c := by
    have := kind_lot ⟨a, b⟩
    have h := kind_lot ⟨c, d⟩
    rw [show (Part.mk a b).kind = (Part.mk c d).kind from h1] at this
    exact (this.symm.trans h)
  cases e1
  cases h2
  rfl
end SWL
set_option Elab.async false
set_option linter.all false
set_option maxRecDepth 100000
set_option maxHeartbeats 4000000
namespace SWL
open PySem PySem.Spec PyProof.Rows L2 LamX
def NotTup (K : PySem.W.Frag) (H : Hp) (x : V) : Prop := ∃ t : String, TyX K H x (.type t) ∧ kitB t "tuple" = some false
theorem NotTup.grows {K : PySem.W.Frag} {H H' : Hp} (g : Grows H H') {x : V} (h : NotTup K H x) : NotTup K H' x := by
  obtain ⟨t, h1, h2⟩ := h
  exact ⟨t, tyx_grows g h1, h2⟩
def spIsPart (K : PySem.W.Frag) : Sp := fun vs H Q _ => ∃ (ls : Str) (q : LP), vs = [.str ls, .ref q.1] ∧ PartAt K H q ∧ q.2.text.length ≤ sizeLine ∧ ∀ H', Grows H H' → Q (.bl (okPart ls q.2)) H'
def spHasAll (K : PySem.W.Frag) : Sp := fun vs H Q _ => ∃ p q : LP, vs = [.ref p.1, .ref q.1] ∧ PartAt K H p ∧ PartAt K H q ∧ q.2.text.length ≤ sizeLine ∧ ∀ H', Grows H H' → Q (.bl (hasAll p.2 q.2)) H'
section
variable {P : Program} {w : World} {K : PySem.W.Frag} {mg : Str → Option Value} {base : Heap}
theorem scHasAll : FnScope ["lot", "part", "letter"] ["lot", "part"] (defScope sHasAll) := ⟨rfl, rfl, rfl, by decide +kernel, rfl, by decide +kernel, by decide +kernel⟩
def inT (b : Str) (v : V) : V := .bl (decide (sign0 v ∈ b.cps.toList))
theorem subT_signs (a b : Str) : ((signsV a).map (inT b)) = (a.cps.toList.map fun c => V.bl (decide (c ∈ b.cps.toList))) := by
  unfold signsV
  rw [List.map_map]
  rfl
theorem subT_all (a b : Str) : ((a.cps.toList.map fun c => decide (c ∈ b.cps.toList)).all id) = subT a b := by
  rw [List.all_map]
  rfl
theorem ok_hasAll {f : Addr} {fd : FuncData} (F : L2.Fun K "has_all" "has_all" sHasAll f fd) (B : Blt mg) : FnOk P w K mg base CX0 1 f fd ["lot", "part"] (spHasAll K) := by
  refine F.ok scHasAll (fun vs H Q E h => ?_) (fun cdv A outer s H vs Q E hr h => ⟨_,
    pss_one (ps_ret (pe_and (pe_cmpR op_eq (pe_ix ix_tup (pv 0) pe_int (fun _ _ => rfl)) pe_str (nomark _))
      (pe_one (pe_callB (cr_all rfl) (by rfl) B.all (by decide +kernel) (pa_cons (pe_lc (own := [("letter", 2)]) (g := gName 2) (tt := tYes) (te := tOp rInS (tVar 2) (tOp (rIxT K) (tVar 0) (tC (.int 1)))) rfl scHasAll.nd (pi_str (pe_ix ix_tup (pv 1) pe_int (fun _ _ => rfl))) (blkOk_by (N := ["lot", "part", "letter"]) (sc := defScope sHasAll) (by decide +kernel)) (fun _ _ _ _ _ => pg_name (i := 2) scHasAll.nd rfl (Or.inl rfl)) (fun _ _ _ _ _ => pts_nil)
        (fun _ _ _ _ _ => pe_cmpR op_inS (pv 2) (pe_ix ix_tup (pv 0) pe_int (fun _ _ => rfl)) rfl)) pa_nil))))), ?_⟩)
  · obtain ⟨p, q, rfl, _⟩ := h
    rfl
  · obtain ⟨p, q, rfl, hp, hq, hz, h⟩ := h
    refine ⟨_, rfl, p.1, _, 0, _, rfl, rfl, hp, atI_nat (j := 0) rfl, rfl, _, rfl, ?_⟩
    rw [kindV_lot]
    cases e : p.2.lot with
    | false =>
      refine if_neg_of (by decide) ?_
      have e2 : hasAll p.2 q.2 = false := by unfold hasAll; rw [e]; rfl
      rw [e2] at h
      exact h H (Grows.refl H)
    | true =>
      refine if_pos_of rfl ?_
      refine ⟨_, rfl, q.1, _, 1, _, rfl, rfl, hq, atI_nat (j := 1) rfl, _, rfl, fun D nD => comp (xs := signsV q.2.text) (walk_signs q.2.text) (fun _ => true) (inT p.2.text) nD (fun _ _ => trivial) (by rw [signs_len]; exact hz) (fun x H k _ g hk => hk H (Grows.refl H)) (fun x H Q hx _ g hk => ?_) (fun H2 g2 hD => ?_)⟩
      · obtain ⟨c, hc, rfl⟩ := signs_mem hx
        exact ⟨_, rfl, _, rfl, p.1, _, 1, _, rfl, rfl, g.t hp, atI_nat (j := 1) rfl, c, p.2.text, rfl, rfl, hk _ (Grows.refl _)⟩
      · rw [filter_yes, subT_signs] at hD
        refine ⟨D, q.2.text.cps.toList.map fun c => decide (c ∈ p.2.text.cps.toList), rfl, .inl (.inl (hD.trans ?_)), ?_⟩
        · rw [List.map_map]
          rfl
        · rw [subT_all]
          have e2 : hasAll p.2 q.2 = subT q.2.text p.2.text := by unfold hasAll; rw [e]; rfl
          rw [e2] at h
          exact h H2 g2
end
end SWL
set_option Elab.async false
set_option linter.all false
set_option maxRecDepth 100000
set_option maxHeartbeats 4000000
namespace SWL
open PySem PySem.Spec PyProof.Rows L2 LamX
section
variable {P : Program} {w : World} {K : PySem.W.Frag} {mg : Str → Option Value} {base : Heap}
theorem scIsPart : FnScope ["letters", "thing", "letter"] ["letters", "thing"] (defScope sIsPart) := ⟨rfl, rfl, rfl, by decide +kernel, rfl, by decide +kernel, by decide +kernel⟩
theorem ok_isPart {f f1 : Addr} {fd fd1 : FuncData} (F : L2.Fun K "is_part" "is_part" sIsPart f fd) (B : Blt mg) (G : FnOk P w K mg base CX0 2 f1 fd1 ["thing"] (spIsL K)) (D : Def mg K "is_letters" f1 fd1 ["thing"]) : FnOk P w K mg base CX0 3 f fd ["letters", "thing"] (spIsPart K) := by
  refine F.ok scIsPart (fun vs H Q E h => ?_) (fun cdv A outer s H vs Q E hr h => ⟨_,
    pss_cons (ps_if (pw_or (pt_not (pt_truth (pe_callB call_isi (by rfl) B.isi (by decide +kernel) (pa_cons (pv 1) (pa_cons (pe_bltn (u := .type "tuple") (v := .ty "tuple") (by rfl) B.tuple (by decide +kernel) rfl) pa_nil))) (by intro _; rfl)))
      (pw_or (pt_cmpR op_ne (pe_callB call_len_seq (by rfl) B.len PySem.boot_len (pa_cons (pv 1) pa_nil)) pe_int (nomark _))
      (pw_or1 (pt_cmpR op_notIn_seq (pe_ix ix_tup (pv 1) pe_int (fun _ _ => rfl)) (pe_tup (pa_cons pe_str (pa_cons pe_str pa_nil))) rfl)))).pt (pss_one (ps_ret pe_bl)) pss_nil)
    (pss_cons (ps_if (pw_or (pt_not (pt_truth (pe_call G hr (by rfl) D.g D.k D.b .nil pass0 (pa_cons (pe_ix ix_tup (pv 1) pe_int (fun _ _ => rfl)) pa_nil)) (by intro _; rfl)))
      (pw_or1 (pt_not (pt_truth (pe_callB (cr_all rfl) (by rfl) B.all (by decide +kernel) (pa_cons (pe_lc (own := [("letter", 2)]) (g := gName 2) (tt := tYes) rfl scIsPart.nd (pi_str (pe_ix ix_tup (pv 1) pe_int (fun _ _ => rfl))) (blkOk_by (N := ["letters", "thing", "letter"]) (sc := defScope sIsPart) (by decide +kernel)) (fun _ _ _ _ _ => pg_name (i := 2) scIsPart.nd rfl (Or.inl rfl)) (fun _ _ _ _ _ => pts_nil)
        (fun _ _ _ _ _ => pe_cmpR op_inS (pv 2) (pv 0) rfl)) pa_nil)) (by intro _; rfl))))).pt (pss_one (ps_ret pe_bl)) pss_nil)
    (pss_one (ps_ret (pe_or (pe_cmpR op_eq (pe_ix ix_tup (pv 1) pe_int (fun _ _ => rfl)) pe_str (nomark _)) (pe_one (pe_cmpR op_eq (pe_callB call_len_str (by rfl) B.len PySem.boot_len (pa_cons (pe_ix ix_tup (pv 1) pe_int (fun _ _ => rfl)) pa_nil)) pe_int (nomark _))))))), ?_⟩)
  · obtain ⟨ls, q, rfl, _⟩ := h
    rfl
  · obtain ⟨ls, q, rfl, hq, hz, h⟩ := h
    refine ⟨_, rfl, .ref q.1, .ty "tuple", .type "tuple", .type "tuple", true, rfl, .ty "tuple", ty_tuple hq, kit_ty (by decide +kernel), true, rfl, if_neg_of (by decide) ?_⟩
    refine ⟨_, rfl, q.1, _, rfl, .inr hq, rfl, _, rfl, if_neg_of (by simp) ?_⟩
    refine ⟨_, rfl, q.1, _, 0, _, rfl, rfl, hq, atI_nat (j := 0) rfl, by show 2 ≤ sizeLine; decide, fun tp ntp => ?_⟩
    have gt : Grows H (upd H tp (.tup [.str "may", .str "lot"])) := Grows.new ntp
    have kt : upd H tp (.tup [.str "may", .str "lot"]) tp = some (.tup [.str "may", .str "lot"]) := upd_same
    generalize upd H tp (.tup [.str "may", .str "lot"]) = H1 at gt kt ⊢
    refine ⟨tp, _, rfl, .inr (.inl (.inl kt)), rfl, rfl, _, rfl, if_neg_of (by rw [kind_in]; decide) ?_⟩
    refine ⟨_, rfl, q.1, _, 1, _, rfl, rfl, gt.t hq, atI_nat (j := 1) rfl, _, rfl, .inl ⟨q.2.text, rfl, hz, fun H2 g2 => ?_⟩⟩
    have gg := gt.trans g2
    cases e1 : okLetters q.2.text with
    | false =>
      refine ⟨false, rfl, if_pos_of (by decide) ?_⟩
      have e : okPart ls q.2 = false := by unfold okPart; rw [e1]; rfl
      rw [e] at h
      exact h H2 gg
    | true =>
      refine ⟨true, rfl, if_neg_of (by decide) ?_⟩
      refine ⟨_, rfl, q.1, _, 1, _, rfl, rfl, gg.t hq, atI_nat (j := 1) rfl, _, rfl, fun D nD => comp (xs := signsV q.2.text) (walk_signs q.2.text) (fun _ => true) (inT ls) nD (fun _ _ => trivial) (by rw [signs_len]; exact hz) (fun x H k _ g hk => hk H (Grows.refl H)) (fun x H Q hx _ g hk => ?_) (fun H3 g3 hD => ?_)⟩
      · obtain ⟨c, hc, rfl⟩ := signs_mem hx
        exact ⟨_, rfl, _, rfl, c, ls, rfl, rfl, hk _ (Grows.refl _)⟩
      · rw [filter_yes, subT_signs] at hD
        refine ⟨D, q.2.text.cps.toList.map fun c => decide (c ∈ ls.cps.toList), rfl, .inl (.inl (hD.trans ?_)), ?_⟩
        · rw [List.map_map]
          rfl
        · rw [subT_all]
          cases e2 : subT q.2.text ls with
          | false =>
            refine ⟨false, rfl, if_pos_of (by decide) ?_⟩
            have e : okPart ls q.2 = false := by unfold okPart; rw [e1, e2]; rfl
            rw [e] at h
            exact h H3 (gg.trans g3)
          | true =>
            refine ⟨true, rfl, if_neg_of (by decide) ?_⟩
            have e : okPart ls q.2 = (q.2.lot || decide (q.2.text.length = 1)) := by unfold okPart; rw [e1, e2]; rfl
            rw [e] at h
            have hq3 := (gg.trans g3).t hq
            refine ⟨_, rfl, q.1, _, 0, _, rfl, rfl, hq3, atI_nat (j := 0) rfl, rfl, _, rfl, ?_⟩
            rw [kindV_lot]
            cases e3 : q.2.lot with
            | true =>
              rw [e3] at h
              exact if_pos_of rfl (h H3 (gg.trans g3))
            | false =>
              rw [e3] at h
              refine if_neg_of (by decide) ⟨_, rfl, q.1, _, 1, _, rfl, rfl, hq3, atI_nat (j := 1) rfl, q.2.text, rfl, hz, rfl, ?_⟩
              have e4 : decide (V.int (q.2.text.length : Int) = V.int 1) = decide (q.2.text.length = 1) := decide_eq_decide.mpr ⟨fun z => (by have := V.int.inj z; omega), fun z => by rw [z]; rfl⟩
              rw [e4]
              exact h H3 (gg.trans g3)
end
end SWL
set_option Elab.async false
set_option linter.all false
set_option maxRecDepth 100000
set_option maxHeartbeats 4000000
namespace SWL
open PySem PySem.Spec PyProof.Rows L2 LamX
def BadL (K : PySem.W.Frag) (H : Hp) (x : V) : Prop := NotStr K H x ∨ ∃ z, x = .str z ∧ z.length ≤ sizeLine ∧ okLetters z = false
/-- no ideal of these letters -/
def BadI (K : PySem.W.Frag) (H : Hp) (ls : Str) (y : V) : Prop := NotTup K H y ∨ ∃ a I, y = .ref a ∧ IdAt K H a I ∧ I.length ≤ 1000 ∧ (∀ q ∈ I, q.2.text.length ≤ 1000) ∧ okIdeal ls I = false
theorem BadI.grows {K : PySem.W.Frag} {H H' : Hp} (g : Grows H H') {ls : Str} {y : V} (h : BadI K H ls y) : BadI K H' ls y :=
  h.imp (fun n => n.grows g) fun ⟨a, I, h1, h2, h3⟩ => ⟨a, I, h1, h2.grows g, h3⟩
/-- what need_ideal asks: the letters, the ideal -/
def IdAsk (K : PySem.W.Frag) (H : Hp) (x y : V) (CN CI : Addr) (E : XK) (Qb : (Hp → Prop)) (Q : Addr → List LP → Hp → Prop) : Prop :=
  (BadL K H x ∧ ∀ H', Grows H H' → E (.ref CN) none H') ∨ ∃ ls, x = .str ls ∧ ls.length ≤ sizeLine ∧ okLetters ls = true ∧ ((BadI K H ls y ∧ ∀ H', Grows H H' → Qb H') ∨
    ∃ a I, y = .ref a ∧ IdAt K H a I ∧ okIdeal ls I = true ∧ ∀ H', Grows H H' → Q a I H')
def spIsIdeal (K : PySem.W.Frag) (CN CI : Addr) : Sp := fun vs H Q E => ∃ x y, vs = [x, y] ∧ IdAsk K H x y CN CI E (fun H' => Q (.bl false) H') fun _ _ H' => Q (.bl true) H'
def spNeedIdeal (K : PySem.W.Frag) (CN CI : Addr) : Sp := fun vs H Q E => ∃ x y, vs = [x, y] ∧ IdAsk K H x y CN CI E (fun H' => E (.ref CI) none H') fun _ _ H' => Q .non H'
theorem text_len {ls : Str} {p : Part} (h : okPart ls p = true) : p.text.length ≤ 4 ∧ 1 ≤ p.text.length ∧ (∀ c ∈ p.text.cps.toList, c < 128) := by
  unfold okPart at h
  simp only [Bool.and_eq_true] at h
  have h1 := h.1.1
  unfold okLetters at h1
  simp only [Bool.and_eq_true, decide_eq_true_eq, List.all_eq_true] at h1
  refine ⟨h1.1.2, h1.1.1, fun c hc => ?_⟩
  have hm := h1.2.1 c hc
  have all : ∀ d ∈ smallS.cps.toList, d < 128 := by decide +kernel
  exact all c hm
theorem text_ok {ls : Str} {p : Part} (h : okPart ls p = true) : TextOk p := by
  obtain ⟨h1, _, h3⟩ := text_len h
  refine ⟨by omega, ?_⟩
  unfold PyData.strOk
  rw [← Array.all_toList, List.all_eq_true]
  intro c hc
  have := h3 c hc
  exact decide_eq_true (by omega)
theorem okIdeal_part {ls : Str} {I : List LP} (h : okIdeal ls I = true) : I.length ≤ 60 ∧ ∀ q ∈ I, okPart ls q.2 = true := by
  unfold okIdeal at h
  simp only [Bool.and_eq_true, decide_eq_true_eq, List.all_eq_true] at h
  exact h
theorem walk_refs {K : PySem.W.Frag} {a : Addr} {I : List LP} : Walk (Itt K a) I.length (fun H => SqT K H a (refsP I)) (YAt (I.map fun q => V.ref q.1)) := by
  have := walk_tup (K := K) (a := a) (xs := refsP I)
  rw [refs_len] at this
  exact this
section
variable {P : Program} {w : World} {K : PySem.W.Frag} {mg : Str → Option Value} {base : Heap}
/-- isinstance(thing, tuple) and len(thing) <= MOST_PARTS and all([is_part(letters, part) for part in thing]) -/
theorem parts_go {a : Addr} {I : List LP} {ls : Str} {H : Hp} {Q : VK} {σ : L2.St} (hI : IdAt K H a I) (hl : I.length ≤ 1000) (ht : ∀ q ∈ I, q.2.text.length ≤ 1000) (hσ : σ = [some (.str ls), some (.ref a), none]) (q : ∀ H', Grows H H' → Q (.bl (okIdeal ls I)) H') :
    tAndV (tCB (rIsi K) (tCons (tVar 1) (tCons (tC (.ty "tuple")) tNil))) (tAndV (tOp (rI0 fun i j => .bl (decide (i ≤ j))) (tCB (fun xs H Q => ∃ p ys, xs = [.ref p] ∧ (SqL K H p ys ∨ SqT K H p ys) ∧ Q (.int ys.length) H) (tCons (tVar 1) tNil)) (tC (.int 60))) (tCB (rAll K) (tCons (tLc (iTup K (tVar 1)) (gName 2) tYes (tCall (spIsPart K) [] E0 (tCons (tVar 0) (tCons (tVar 2) tNil))) [2]) tNil))) σ H Q := by
  have sz : sizeLine = 16777216 := sizeLine_eq
  subst hσ
  refine ⟨_, rfl, .ref a, .ty "tuple", .type "tuple", .type "tuple", true, rfl, .ty "tuple", ty_tuple hI.seq, kit_ty (by decide +kernel), true, rfl, if_pos_of rfl ?_⟩
  refine ⟨_, rfl, a, _, rfl, .inr hI.seq, _, _, rfl, rfl, _, rfl, ?_⟩
  rw [refs_len]
  by_cases h60 : I.length ≤ 60
  · refine if_pos_of (decide_eq_true (by omega)) ?_
    refine ⟨_, rfl, a, rfl, ⟨_, hI.seq⟩, fun D nD => comp1 (walk_refs (I := I)) (fun _ => true) (fun q => .bl (okPart ls q.2)) nD (fun H' g => g.t hI.seq) (by omega) (fun x H k _ g hk => hk H (Grows.refl H)) (fun x H Q hx _ g hk => ?_) (fun H2 g2 hD => ?_)⟩
    · exact ⟨_, rfl, _, rfl, ls, x, rfl, (hI.parts x hx).grows g, by have := ht x hx; omega, fun H' g' => hk H' g'⟩
    · rw [filter_yes] at hD
      refine ⟨D, I.map fun q => okPart ls q.2, rfl, .inl (.inl (hD.trans ?_)), ?_⟩
      · rw [List.map_map]
        rfl
      · have e : okIdeal ls I = (I.map fun q => okPart ls q.2).all id := by unfold okIdeal; rw [decide_eq_true h60, List.all_map]; rfl
        rw [← e]
        exact q H2 g2
  · refine if_neg_of (by rw [decide_eq_false (by omega)]; decide) ?_
    have e : okIdeal ls I = false := by unfold okIdeal; rw [decide_eq_false h60]; rfl
    rw [e] at q
    exact q H (Grows.refl H)
theorem scIsIdeal : FnScope ["letters", "thing", "part"] ["letters", "thing"] (defScope sIsIdeal) := ⟨rfl, rfl, rfl, by decide +kernel, rfl, by decide +kernel, by decide +kernel⟩
theorem ok_isIdeal {f f1 f2 CN CI : Addr} {fd fd1 fd2 : FuncData} (F : L2.Fun K "is_ideal" "is_ideal" sIsIdeal f fd) (B : Blt mg)
    (G1 : FnOk P w K mg base (L2.CX P w) 3 f1 fd1 ["thing"] (spNeedL K CN)) (D1 : Def mg K "need_letters" f1 fd1 ["thing"])
    (G2 : FnOk P w K mg base CX0 3 f2 fd2 ["letters", "thing"] (spIsPart K)) (D2 : Def mg K "is_part" f2 fd2 ["letters", "thing"]) : FnOk P w K mg base (L2.CX P w) 4 f fd ["letters", "thing"] (spIsIdeal K CN CI) := by
  refine F.okX scIsIdeal (fun vs H Q E h => ?_) (fun cdv A outer s H vs Q E hr h => ⟨_,
    pss_cons (ps_expr (pe_call G1 (hr.mono (by decide)) (by rfl) D1.g D1.k D1.b .nil (passes_call (takes_of rfl rfl rfl rfl) fun _ _ _ _ h => h) (pa_cons (pv 0) pa_nil)))
    (pss_one (ps_ret (pe_and (pe_callB call_isi (by rfl) B.isi (by decide +kernel) (pa_cons (pv 1) (pa_cons (pe_bltn (u := .type "tuple") (v := .ty "tuple") (by rfl) B.tuple (by decide +kernel) rfl) pa_nil)))
      (pe_and (pe_cmpR op_le (pe_callB call_len_seq (by rfl) B.len PySem.boot_len (pa_cons (pv 1) pa_nil)) (pe_glob (v := .int 60) (by rfl) B.mostP.choose_spec ⟨_, rfl⟩) (nomark _))
      (pe_one (pe_callB (cr_all rfl) (by rfl) B.all (by decide +kernel) (pa_cons (pe_lc (own := [("part", 2)]) (g := gName 2) (tt := tYes) (te := tCall (spIsPart K) [] E0 (tCons (tVar 0) (tCons (tVar 2) tNil))) rfl scIsIdeal.nd (pi_tup (pv 1)) (blkOk_by (N := ["letters", "thing", "part"]) (sc := defScope sIsIdeal) (by decide +kernel)) (fun _ _ _ _ _ => pg_name (i := 2) scIsIdeal.nd rfl (Or.inl rfl)) (fun _ _ _ _ _ => pts_nil)
        (fun _ _ _ _ _ => pe_call G2 (hr.mono (by decide)) (by rfl) D2.g D2.k D2.b .nil pass0 (pa_cons (pv 0) (pa_cons (pv 2) pa_nil)))) pa_nil))))))), ?_⟩)
  · obtain ⟨x, y, rfl, _⟩ := h
    rfl
  · have sz : sizeLine = 16777216 := sizeLine_eq
    obtain ⟨x, y, rfl, h⟩ := h
    refine ⟨_, rfl, x, rfl, ?_⟩
    rcases h with ⟨n | ⟨z, rfl, hz, hb⟩, q⟩ | ⟨ls, rfl, hls, hok, h⟩
    · exact .inr ⟨n, q H (Grows.refl H)⟩
    · exact .inl ⟨z, rfl, hz, fun H' g => ⟨fun e => (by rw [hb] at e; cases e), fun _ => q H' g⟩⟩
    · refine .inl ⟨ls, rfl, hls, fun H1 g1 => ⟨fun _ => ?_, fun e => (by rw [hok] at e; cases e)⟩⟩
      rcases h with ⟨hbad, q⟩ | ⟨a, I, rfl, hI, hgood, q⟩
      · rcases hbad with ⟨t, ty, hk⟩ | ⟨a, I, rfl, hI, hl, ht, hf⟩
        · exact ⟨_, rfl, y, .ty "tuple", .type t, .type "tuple", false, rfl, .ty "tuple", tyx_grows g1 ty, kit_ty hk, false, rfl, if_neg_of (by decide) (q H1 g1)⟩
        · rw [← hf] at q
          exact parts_go (hI.grows g1) hl ht rfl fun H2 g2 => q H2 (g1.trans g2)
      · rw [← hgood] at q
        obtain ⟨h60, hp⟩ := okIdeal_part hgood
        exact parts_go (hI.grows g1) (by omega) (fun z hz => by have := (text_len (hp z hz)).1; omega) rfl fun H2 g2 => q H2 (g1.trans g2)
end
end SWL
set_option Elab.async false
set_option linter.all false
set_option maxRecDepth 100000
set_option maxHeartbeats 4000000
namespace SWL
open PySem PySem.Spec PyProof.Rows L2 LamX
/-- a stack of parts, the last one first, takes a part -/
def pushP (s : List LP) (q : LP) : List LP :=
  match s.dropWhile (fun z => hasAll q.2 z.2) with
  | [] => [q]
  | z :: r => if hasAll z.2 q.2 then z :: r else q :: z :: r
def plainS (I : List LP) : List LP := I.foldl pushP []
def plainL (I : List LP) : List LP := (plainS I).reverse
theorem push_mem {s : List LP} {q z : LP} (h : z ∈ pushP s q) : z ∈ s ∨ z = q := by
  unfold pushP at h
  have sub : ∀ y ∈ s.dropWhile (fun z => hasAll q.2 z.2), y ∈ s := fun y hy => (List.dropWhile_sublist _).subset hy
  split at h
  · exact .inr (List.mem_singleton.mp h)
  · rename_i z' r e
    rw [e] at sub
    split at h
    · exact .inl (sub z h)
    · rcases List.mem_cons.mp h with e | h
      · exact .inr e
      · exact .inl (sub z h)
theorem push_len (s : List LP) (q : LP) : (pushP s q).length ≤ s.length + 1 := by
  unfold pushP
  have h : (s.dropWhile (fun z => hasAll q.2 z.2)).length ≤ s.length := (List.dropWhile_sublist _).length_le
  split
  · simp
  · rename_i z' r e
    rw [e] at h
    split
    · simp only [List.length_cons] at h ⊢; omega
    · simp only [List.length_cons] at h ⊢; omega
theorem plainS_snoc (I : List LP) (q : LP) : plainS (I ++ [q]) = pushP (plainS I) q := by
  unfold plainS
  rw [List.foldl_append]
  rfl
theorem plainS_mem : ∀ (I : List LP) {z : LP}, z ∈ plainS I → z ∈ I := by
  have gen : ∀ (I s : List LP) {z : LP}, z ∈ I.foldl pushP s → z ∈ s ∨ z ∈ I := by
    intro I
    induction I with
    | nil => intro s z h; exact .inl h
    | cons q I ih =>
      intro s z h
      rcases ih _ h with h | h
      · rcases push_mem h with h | h
        · exact .inl h
        · rw [h]
          exact .inr List.mem_cons_self
      · exact .inr (List.mem_cons_of_mem _ h)
  intro I z h
  rcases gen I [] h with h | h
  · cases h
  · exact h
theorem plainS_len : ∀ I : List LP, (plainS I).length ≤ I.length := by
  have gen : ∀ (I s : List LP), (I.foldl pushP s).length ≤ s.length + I.length := by
    intro I
    induction I with
    | nil => intro s; exact Nat.le_refl _
    | cons q I ih =>
      intro s
      have h1 := ih (pushP s q)
      have h2 := push_len s q
      rw [List.foldl_cons, List.length_cons]
      omega
  intro I
  have := gen I []
  simpa [plainS] using this
/-- the list of ideals' parts, as data -/
def iData (I : List LP) : PyData := .list (I.map fun q => pData q.2)
theorem iData_shaped {I : List LP} (h : ∀ q ∈ I, TextOk q.2) : SeqAt.shaped (iData I) = true := by
  unfold SeqAt.shaped iData
  rw [Bool.and_eq_true]
  refine ⟨by rw [PyData.canLay0]; exact pDatas_can h, decide_eq_true ?_⟩
  have := pDatas_depth I
  rw [PyData.depth]
  omega
theorem eqv_iData_nil (I : List LP) : PyData.eqv (iData I) (.list []) = decide (I = []) := by
  cases I <;> rfl
def spNeedId (K : PySem.W.Frag) (CN CI : Addr) : Sp := spNeedIdeal K CN CI
def spPlainOf (K : PySem.W.Frag) : Sp := fun vs H Q _ => ∃ a I, vs = [.ref a] ∧ IdAt K H a I ∧ I.length ≤ 1000 ∧ (∀ q ∈ I, TextOk q.2) ∧ ∀ H' b, Grows H H' → IdAt K H' b (plainL I) → Q (.ref b) H'
section
variable {P : Program} {w : World} {K : PySem.W.Frag} {mg : Str → Option Value} {base : Heap}
theorem scNeedIdeal : FnScope ["letters", "thing"] ["letters", "thing"] (defScope sNeedIdeal) := ⟨rfl, rfl, rfl, by decide +kernel, rfl, by decide +kernel, by decide +kernel⟩
theorem ok_needIdeal {f f1 CN CI CS : Addr} {fd fd1 : FuncData} (F : L2.Fun K "need_ideal" "need_ideal" sNeedIdeal f fd) (G : FnOk P w K mg base (L2.CX P w) 4 f1 fd1 ["letters", "thing"] (spIsIdeal K CN CI)) (D : Def mg K "is_ideal" f1 fd1 ["letters", "thing"]) (EN : ErrC K mg "NoIdeal" CI CS) :
    FnOk P w K mg base (L2.CX P w) 5 f fd ["letters", "thing"] (spNeedIdeal K CN CI) := by
  refine F.okX scNeedIdeal (fun vs H Q E h => ?_) (fun cdv A outer s H vs Q E hr h => ⟨_,
    pss_one (ps_if (pt_not (pt_truth (pe_call G hr (by rfl) D.g D.k D.b .nil (passes_call (takes_of rfl rfl rfl rfl) fun _ _ _ _ h => h) (pa_cons (pv 0) (pa_cons (pv 1) pa_nil))) (by intro _; rfl)))
      (pss_one (ps_raise rfl (takes_of rfl rfl rfl rfl) (pmk_own PySem.F.excBase_ValueError EN.xC EN.gC EN.kC (raises_own EN.bC EN.tC) rfl))) pss_nil), ?_⟩)
  · obtain ⟨x, y, rfl, _⟩ := h
    rfl
  · obtain ⟨x, y, rfl, h⟩ := h
    refine ⟨_, rfl, _, rfl, x, y, rfl, ?_⟩
    rcases h with h | ⟨ls, rfl, hls, hok, ⟨hbad, q⟩ | ⟨a, I, rfl, hI, hgood, q⟩⟩
    · exact .inl h
    · exact .inr ⟨ls, rfl, hls, hok, .inl ⟨hbad, fun H' g => ⟨false, rfl, if_pos_of (by decide) (q H' g)⟩⟩⟩
    · exact .inr ⟨ls, rfl, hls, hok, .inr ⟨a, I, rfl, hI, hgood, fun H' g => ⟨true, rfl, if_neg_of (by decide) (q H' g)⟩⟩⟩
/-- if found == [] or not has_all(found[-1], part): found.append(part) -/
theorem go_push {a p : Addr} {q0 : LP} {s : List LP} {H : Hp} {D : Ends} (hp : H p = some (.lst (refsP s.reverse))) (hs : ∀ z ∈ s, PartAt K H z) (hq : PartAt K H q0) (hlq : q0.2.text.length ≤ 1000) (hl : s.length ≤ 1000) (ht : ∀ z ∈ s, TextOk z.2)
    (no : ∀ z r, s = z :: r → hasAll z.2 q0.2 = true → ∀ H3, Grows H H3 → D.nx [some (.ref a), some (.ref p), some (.ref q0.1)] H3)
    (yes : (∀ z r, s = z :: r → hasAll z.2 q0.2 = false) → ∀ H3, Grows H H3 → D.nx [some (.ref a), some (.ref p), some (.ref q0.1)] (upd H3 p (.lst (refsP (q0 :: s).reverse)))) :
    tIfS (tOr (tTest (tOp (rEqD K) (tVar 1) (tLst tNil))) (tNot fun σ H Q => tCall (spHasAll K) [] E0 (tCons (tOp (rIxL K) (tVar 1) (tUn (rU fun i => .int (-i)) (tC (.int 1)))) (tCons (tVar 2) tNil)) σ H fun x H' => ∃ k, TruV K x H' k ∧ Q k H'))
      (tDrop (tBM K "list" rAppend (tVar 1) (tCons (tVar 2) tNil))) tNext D [some (.ref a), some (.ref p), some (.ref q0.1)] H := by
  have sz : sizeLine = 16777216 := sizeLine_eq
  have push : ∀ H3, Grows H H3 → (∀ H4, Grows H H4 → D.nx [some (.ref a), some (.ref p), some (.ref q0.1)] (upd H4 p (.lst (refsP (q0 :: s).reverse)))) → tDrop (tBM K "list" rAppend (tVar 1) (tCons (tVar 2) tNil)) D [some (.ref a), some (.ref p), some (.ref q0.1)] H3 := fun H3 g3 hy => by
    have hp3 := g3 _ _ hp
    refine ⟨_, rfl, .inl ⟨rfl, _, .inl (.inl hp3)⟩, _, rfl, p, _, _, rfl, rfl, hp3, by rw [refs_len, List.length_reverse]; omega, ?_⟩
    have e : refsP s.reverse ++ [V.ref q0.1] = refsP (q0 :: s).reverse := by unfold refsP; rw [List.reverse_cons, List.map_append]; rfl
    rw [e]
    exact hy H3 g3
  refine ⟨_, rfl, by show 0 ≤ sizeLine; decide, fun e ne => ?_⟩
  have ge : Grows H (upd H e (.lst [])) := Grows.new ne
  have ke : upd H e (.lst []) e = some (.lst []) := upd_same
  generalize upd H e (.lst []) = H2 at ge ke ⊢
  have hp2 := ge _ _ hp
  refine ⟨iData s.reverse, .list [], .lst (.inl (.inl hp2)) (parts_dp fun y hy => (hs y (List.mem_reverse.mp hy)).grows ge), .lst (.inl (.inl ke)) .nil, iData_shaped fun y hy => ht y (List.mem_reverse.mp hy), rfl, _, rfl, ?_⟩
  rw [eqv_iData_nil]
  cases s with
  | nil => exact if_pos_of rfl (if_pos_of rfl (push H2 ge (yes fun z r e => by cases e)))
  | cons z r =>
    refine if_neg_of (by rw [decide_eq_false (by simp)]; decide) ?_
    have elast : refsP (z :: r).reverse = refsP r.reverse ++ [V.ref z.1] := by unfold refsP; rw [List.reverse_cons, List.map_append]; rfl
    refine ⟨_, rfl, _, rfl, p, _, _, _, rfl, rfl, .inl (.inl hp2), by rw [elast]; exact atI_last _ _, _, rfl, z, q0, rfl, (hs z List.mem_cons_self).grows ge, hq.grows ge, by omega, fun H4 g4 => ⟨_, rfl, ?_⟩⟩
    cases eh : hasAll z.2 q0.2 with
    | true => exact if_neg_of (by decide) (no z r rfl eh H4 (ge.trans g4))
    | false => exact if_pos_of rfl (push H4 (ge.trans g4) (yes fun z' r' e => by cases e; exact eh))
theorem scPlainOf : FnScope ["parts", "found", "part"] ["parts"] (defScope sPlainOf) := ⟨rfl, rfl, rfl, by decide +kernel, rfl, by decide +kernel, by decide +kernel⟩
theorem ok_plainOf {f f1 : Addr} {fd fd1 : FuncData} (F : L2.Fun K "plain_of" "plain_of" sPlainOf f fd) (B : Blt mg) (G : FnOk P w K mg base CX0 1 f1 fd1 ["lot", "part"] (spHasAll K)) (D : Def mg K "has_all" f1 fd1 ["lot", "part"]) : FnOk P w K mg base CX0 2 f fd ["parts"] (spPlainOf K) := by
  refine F.ok scPlainOf (fun vs H Q E h => ?_) (fun cdv A outer s H vs Q E hr h => ⟨_,
    pss_cons (ps_set (i := 1) scPlainOf.nd rfl (Or.inl rfl) (pe_lst pa_nil))
    (pss_cons (ps_for PassesOwn.never rfl (pi_tup (pv 0)) (pg_name (i := 2) scPlainOf.nd rfl (Or.inl rfl))
      (pss_cons (ps_while PassesOwn.never (pw_and (pt_cmpR (op_neD (by have := hr.un; show (A.deeper _).units + 64 < _; omega)) (pv 1) (pe_lst pa_nil) (nomark _)) (pw_and1 (pt_truth (pe_call G hr (by rfl) D.g D.k D.b .nil pass0 (pa_cons (pv 2) (pa_cons (pe_ix ix_list (pv 1) (pe_un un_neg pe_int) (fun _ _ => rfl)) pa_nil))) (by intro _; rfl)))).pt
          (pss_one (ps_expr (pe_bm0 PySem.F.plainAttrs_list PySem.F.slot_list_pop PySem.F.type_list_pop mt_pop (pv 1)))))
      (pss_one (ps_if (pw_or (pt_cmpR (op_eqD (by have := hr.un; show (A.deeper _).units + 64 < _; omega)) (pv 1) (pe_lst pa_nil) (nomark _)) (pw_or1 (pt_not (pt_truth (pe_call G hr (by rfl) D.g D.k D.b .nil pass0 (pa_cons (pe_ix ix_list (pv 1) (pe_un un_neg pe_int) (fun _ _ => rfl)) (pa_cons (pv 2) pa_nil))) (by intro _; rfl))))).pt
          (pss_one (ps_expr (pe_bm PySem.F.plainAttrs_list PySem.F.slot_list_append PySem.F.type_list_append mt_append (pv 1) (pa_cons (pv 2) pa_nil)))) pss_nil))))
    (pss_one (ps_ret (pe_callTy call_tuple_of (by rfl) B.tuple (by decide +kernel) (pa_cons (pv 1) pa_nil))))), ?_⟩)
  · obtain ⟨a, I, rfl, _⟩ := h
    rfl
  · obtain ⟨a, I, rfl, hI, hl, ht, q⟩ := h
    have sz : sizeLine = 16777216 := sizeLine_eq
    refine ⟨by show 0 ≤ sizeLine; decide, fun p np => ?_⟩
    have g0 : Grows H (upd H p (.lst [])) := Grows.new np
    have gU : ∀ {H' : Hp} {o : HO}, Grows H H' → Grows H (upd H' p o) := fun g b u e => by
      rw [upd_ne (ne_of_none e np)]
      exact g b u e
    refine ⟨_, rfl, a, rfl, ⟨_, g0.t hI.seq⟩, for_it (walk_refs (I := I)) (fun i σ H' => (∃ v2 : Option V, σ = [some (.ref a), some (.ref p), v2]) ∧ Grows H H' ∧ H' p = some (.lst (refsP (plainS (I.take i)).reverse))) ⟨⟨none, rfl⟩, g0, by rw [upd_same]; rfl⟩ (fun i σ H' _ h => h.2.1.t hI.seq) ?_ ?_⟩
    · rintro i x σ H1 H1' hi ⟨⟨v2, rfl⟩, g1, hp⟩ ⟨rfl, hx⟩
      obtain ⟨q0, hq, rfl⟩ := refs_get hx
      have hm : q0 ∈ I := List.mem_of_getElem? hq
      have hS : plainS (I.take (i + 1)) = pushP (plainS (I.take i)) q0 := by rw [take_snoc hq, plainS_snoc]
      have hsub : ∀ z ∈ plainS (I.take i), z ∈ I := fun z hz => List.mem_of_mem_take (plainS_mem _ hz)
      have hlen : (plainS (I.take i)).length ≤ 1000 := Nat.le_trans (plainS_len _) (Nat.le_trans mem_take_len hl)
      generalize plainS (I.take i) = s0 at hp hS hsub hlen
      refine ⟨fun m σ' H' => ∃ s' : List LP, m = s'.length ∧ σ' = [some (.ref a), some (.ref p), some (.ref q0.1)] ∧ Grows H H' ∧ H' p = some (.lst (refsP s'.reverse)) ∧ s'.dropWhile (fun z => hasAll q0.2 z.2) = s0.dropWhile (fun z => hasAll q0.2 z.2) ∧ (∀ z ∈ s', z ∈ I) ∧ s'.length ≤ 1000, ⟨_, s0, rfl, rfl, g1, hp, rfl, hsub, hlen⟩, ?_⟩
      rintro m σ' H2 ⟨s', rfl, rfl, g2, hp2, hd, hs', hl'⟩
      cases s' with
      | nil =>
        refine ⟨_, rfl, by show 0 ≤ sizeLine; decide, fun e ne => ?_⟩
        have ge : Grows H2 (upd H2 e (.lst [])) := Grows.new ne
        refine ⟨iData [], .list [], .lst (.inl (.inl (ge _ _ hp2))) .nil, .lst (.inl (.inl upd_same)) .nil, rfl, rfl, _, rfl, if_neg_of (by decide) ?_⟩
        refine if_neg_of (by decide) ?_
        refine go_push (s := []) (ge _ _ hp2) (fun z hz => by cases hz) ((hI.grows (g2.trans ge)).parts q0 hm) (ht q0 hm).1 (by decide) (fun z hz => by cases hz) (fun z r e => by cases e) (fun _ H3 g3 => ?_)
        refine ⟨⟨_, rfl⟩, gU ((g2.trans ge).trans g3), ?_⟩
        rw [upd_same, hS]
        unfold pushP
        rw [← hd]
        rfl
      | cons z r =>
        have hz := hs' z List.mem_cons_self
        refine ⟨_, rfl, by show 0 ≤ sizeLine; decide, fun e ne => ?_⟩
        have ge : Grows H2 (upd H2 e (.lst [])) := Grows.new ne
        have ke : upd H2 e (.lst []) e = some (.lst []) := upd_same
        generalize upd H2 e (.lst []) = H3 at ge ke ⊢
        have g3 := g2.trans ge
        have hp3 := ge _ _ hp2
        have hI3 := hI.grows g3
        refine ⟨iData (z :: r).reverse, .list [], .lst (.inl (.inl hp3)) (parts_dp fun y hy => hI3.parts y (hs' y (List.mem_reverse.mp hy))), .lst (.inl (.inl ke)) .nil, iData_shaped fun y hy => ht y (hs' y (List.mem_reverse.mp hy)), rfl, _, rfl, ?_⟩
        rw [eqv_iData_nil]
        refine if_pos_of (by rw [decide_eq_false (by simp)]; rfl) ?_
        have elast : refsP (z :: r).reverse = refsP r.reverse ++ [V.ref z.1] := by unfold refsP; rw [List.reverse_cons, List.map_append]; rfl
        refine ⟨_, rfl, _, rfl, _, rfl, p, _, _, _, rfl, rfl, .inl (.inl hp3), by rw [elast]; exact atI_last _ _, q0, z, rfl, hI3.parts q0 hm, hI3.parts z hz, by have := (ht z hz).1; omega, fun H4 g4 => ⟨_, rfl, ?_⟩⟩
        have hp4 := g4 _ _ hp3
        cases eh : hasAll q0.2 z.2 with
        | true =>
          refine if_pos_of rfl ⟨fun σ' H' => ∃ m', m' < (z :: r).length ∧ _, fun σ' H' h => h, ?_⟩
          refine ⟨_, rfl, .inl ⟨rfl, _, .inl (.inl hp4)⟩, p, _, V.ref z.1, rfl, rfl, hp4, by rw [elast]; simp, ?_⟩
          refine ⟨r.length, by simp, r, rfl, rfl, gU (g3.trans g4), ?_, ?_, fun y hy => hs' y (List.mem_cons_of_mem z hy), by rw [List.length_cons] at hl'; omega⟩
          · rw [upd_same, elast, List.dropLast_concat]
          · rw [← hd, List.dropWhile_cons, if_pos eh]
        | false =>
          refine if_neg_of (by decide) ?_
          have es : z :: r = s0.dropWhile (fun z => hasAll q0.2 z.2) := by rw [← hd, List.dropWhile_cons, if_neg (by rw [eh]; decide)]
          refine go_push (s := z :: r) hp4 (fun y hy => (hI3.grows g4).parts y (hs' y hy)) ((hI3.grows g4).parts q0 hm) (ht q0 hm).1 (by omega) (fun y hy => ht y (hs' y hy)) (fun z' r' e hno H5 g5 => ?_) (fun hyes H5 g5 => ?_)
          · cases e
            refine ⟨⟨_, rfl⟩, (g3.trans g4).trans g5, ?_⟩
            rw [hS]
            unfold pushP
            rw [← es]
            show H5 p = some (.lst (refsP (if hasAll z.2 q0.2 = true then z :: r else q0 :: z :: r).reverse))
            rw [if_pos hno]
            exact g5 _ _ hp4
          · refine ⟨⟨_, rfl⟩, gU ((g3.trans g4).trans g5), ?_⟩
            rw [upd_same, hS]
            unfold pushP
            rw [← es]
            show _ = some (HO.lst (refsP (if hasAll z.2 q0.2 = true then z :: r else q0 :: z :: r).reverse))
            rw [if_neg (by rw [hyes z r rfl]; decide)]
    · rintro σ H1 ⟨⟨v2, rfl⟩, g1, hp⟩
      rw [List.take_length] at hp
      refine ⟨_, rfl, p, _, rfl, .inl ⟨.inl (.inl hp), fun b nb => ?_⟩⟩
      have gb : Grows H1 (upd H1 b (.tup (refsP (plainS I).reverse))) := Grows.new nb
      refine q _ b (g1.trans gb) ⟨.inl (.inl upd_same), fun y hy => ?_⟩
      exact (hI.grows (g1.trans gb)).parts y (plainS_mem I (List.mem_reverse.mp hy))
end
end SWL
set_option Elab.async false
set_option linter.all false
set_option maxRecDepth 100000
set_option maxHeartbeats 4000000
namespace SWL
open PySem PySem.Spec PyProof.Rows L2 LamX
/-- the ideal of the words by which a letter goes on -/
def behind (c : Nat) : List LP → Option (List LP)
  | [] => none
  | q :: r => if c ∈ q.2.text.cps.toList then some (if q.2.lot then q :: r else r) else behind c r
def inI : List LP → List Nat → Bool
  | _, [] => true
  | I, c :: w => match behind c I with
    | none => false
    | some J => inI J w
theorem behind_mem {c : Nat} : ∀ {I J : List LP}, behind c I = some J → ∀ q ∈ J, q ∈ I
  | [], _, h => by cases h
  | q :: r, J, h => by
    unfold behind at h
    split at h
    · have e := Option.some.inj h
      intro z hz
      rw [← e] at hz
      split at hz
      · exact hz
      · exact List.mem_cons_of_mem _ hz
    · exact fun z hz => List.mem_cons_of_mem _ (behind_mem h z hz)
theorem behind_len {c : Nat} : ∀ {I J : List LP}, behind c I = some J → J.length ≤ I.length
  | [], _, h => by cases h
  | q :: r, J, h => by
    unfold behind at h
    split at h
    · have e := Option.some.inj h
      rw [← e]
      split <;> simp
    · have := behind_len h
      rw [List.length_cons]
      omega
theorem cutV_from {α : Type} (xs : List V) (k : Nat) : cutV xs (some (k : Int)) none = xs.drop k := by
  have h1 : HT.sIx xs.length 0 (some (k : Int)) = min k xs.length := HT.sIx_nat _ _ k
  have h2 : HT.sIx xs.length xs.length none = xs.length := rfl
  unfold cutV
  rw [h1, h2]
  have e : xs.drop (min k xs.length) = xs.drop k := by
    by_cases h : k ≤ xs.length
    · rw [Nat.min_eq_left h]
    · rw [Nat.min_eq_right (by omega), List.drop_eq_nil_of_le (Nat.le_refl _), List.drop_eq_nil_of_le (by omega)]
  rw [e]
  refine List.take_of_length_le ?_
  rw [List.length_drop]
  omega
theorem from_ideal {K : PySem.W.Frag} {H : Hp} {a : Addr} {I : List LP} {k : Nat} {Q : VK} (hI : IdAt K H a I) (q : ∀ H' b, Grows H H' → IdAt K H' b (I.drop k) → Q (.ref b) H') : rSlA K (.ref a) (some (k : Int)) none H Q := by
  refine ⟨a, refsP I, rfl, hI.seq, fun hw => ?_, fun _ p np => ?_⟩
  · have h1 : HT.sIx (refsP I).length 0 (some (k : Int)) = min k (refsP I).length := HT.sIx_nat _ _ k
    have h := hw.1
    rw [h1, refs_len] at h
    have e : I.drop k = I := by
      by_cases h0 : k = 0
      · rw [h0]; rfl
      · have : I = [] := List.length_eq_zero_iff.mp (by omega)
        rw [this]
        simp
    refine q H a (Grows.refl H) ?_
    rw [e]
    exact hI
  · have g := Grows.new (o := .tup (cutV (refsP I) (some (k : Int)) none)) np
    refine q _ p g ⟨.inl (.inl ?_), fun z hz => (hI.grows g).parts z (List.mem_of_mem_drop hz)⟩
    rw [upd_same, cutV_from (α := Unit), refs_drop]
def spPlainId (K : PySem.W.Frag) (CN CI : Addr) : Sp := fun vs H Q E => ∃ x y, vs = [x, y] ∧ IdAsk K H x y CN CI E (fun H' => E (.ref CI) none H') fun a I H1 => ∀ H' b, Grows H1 H' → IdAt K H' b (plainL I) → Q (.ref b) H'
def spBehind (K : PySem.W.Frag) : Sp := fun vs H Q _ => ∃ a I c, vs = [.ref a, .str ⟨#[c]⟩] ∧ IdAt K H a I ∧ I.length ≤ 1000 ∧ (∀ H', Grows H H' → behind c I = none → Q .non H') ∧ ∀ J H' b, Grows H H' → behind c I = some J → IdAt K H' b J → Q (.ref b) H'
section
variable {P : Program} {w : World} {K : PySem.W.Frag} {mg : Str → Option Value} {base : Heap}
theorem scPlainId : FnScope ["letters", "ideal"] ["letters", "ideal"] (defScope sPlainId) := ⟨rfl, rfl, rfl, by decide +kernel, rfl, by decide +kernel, by decide +kernel⟩
theorem ok_plainId {f f1 f2 CN CI : Addr} {fd fd1 fd2 : FuncData} (F : L2.Fun K "plain_ideal" "plain_ideal" sPlainId f fd)
    (G1 : FnOk P w K mg base (L2.CX P w) 5 f1 fd1 ["letters", "thing"] (spNeedIdeal K CN CI)) (D1 : Def mg K "need_ideal" f1 fd1 ["letters", "thing"])
    (G2 : FnOk P w K mg base CX0 2 f2 fd2 ["parts"] (spPlainOf K)) (D2 : Def mg K "plain_of" f2 fd2 ["parts"]) : FnOk P w K mg base (L2.CX P w) 6 f fd ["letters", "ideal"] (spPlainId K CN CI) := by
  refine F.okX scPlainId (fun vs H Q E h => ?_) (fun cdv A outer s H vs Q E hr h => ⟨_,
    pss_cons (ps_expr (pe_call G1 (hr.mono (by decide)) (by rfl) D1.g D1.k D1.b .nil (passes_call (takes_of rfl rfl rfl rfl) fun _ _ _ _ h => h) (pa_cons (pv 0) (pa_cons (pv 1) pa_nil))))
    (pss_one (ps_ret (pe_call G2 (hr.mono (by decide)) (by rfl) D2.g D2.k D2.b .nil pass0 (pa_cons (pv 1) pa_nil)))), ?_⟩)
  · obtain ⟨x, y, rfl, _⟩ := h
    rfl
  · obtain ⟨x, y, rfl, h⟩ := h
    refine ⟨_, rfl, _, rfl, x, y, rfl, ?_⟩
    rcases h with h | ⟨ls, rfl, hls, hok, h | ⟨a, I, rfl, hI, hgood, q⟩⟩
    · exact .inl h
    · exact .inr ⟨ls, rfl, hls, hok, .inl h⟩
    · obtain ⟨h60, hp⟩ := okIdeal_part hgood
      exact .inr ⟨ls, rfl, hls, hok, .inr ⟨a, I, rfl, hI, hgood, fun H' g => ⟨_, rfl, a, I, rfl, hI.grows g, by omega, fun z hz => text_ok (hp z hz), fun H2 b g2 hb => q H' g H2 b g2 hb⟩⟩⟩
end
end SWL
set_option Elab.async false
set_option linter.all false
set_option maxRecDepth 100000
set_option maxHeartbeats 4000000
namespace SWL
open PySem PySem.Spec PyProof.Rows L2 LamX
/-- lies_within, head by head, of the parts alone -/
def lies : List Part → List Part → Bool
  | [], _ => true
  | _ :: _, [] => false
  | p :: I, q :: J => if hasAll q p then lies I (q :: J) else if p = q then lies I J else lies (p :: I) J
termination_by I J => I.length + J.length
def partsOf (I : List LP) : List Part := I.map (·.2)
theorem lies_nil (J : List Part) : lies [] J = true := by unfold lies; rfl
theorem lies_out (p : Part) (I : List Part) : lies (p :: I) [] = false := by unfold lies; rfl
theorem lies_cons (p q : Part) (I J : List Part) : lies (p :: I) (q :: J) = if hasAll q p then lies I (q :: J) else if p = q then lies I J else lies (p :: I) J := by rw [lies]
def spLies (K : PySem.W.Frag) : Sp := fun vs H Q _ => ∃ a b I J, vs = [.ref a, .ref b] ∧ IdAt K H a I ∧ IdAt K H b J ∧ (∀ q ∈ I, TextOk q.2) ∧ (∀ q ∈ J, TextOk q.2) ∧ ∀ H', Grows H H' → Q (.bl (lies (partsOf I) (partsOf J))) H'
def spWithin (K : PySem.W.Frag) (CN CI : Addr) : Sp := fun vs H Q E => ∃ x y z, vs = [x, y, z] ∧ IdAsk K H x y CN CI E (fun H' => E (.ref CI) none H') fun a I H1 =>
  ∃ ls, x = .str ls ∧ ls.length ≤ sizeLine ∧ okLetters ls = true ∧ ((BadI K H1 ls z ∧ ∀ H', Grows H1 H' → E (.ref CI) none H') ∨ ∃ b J, z = .ref b ∧ IdAt K H1 b J ∧ okIdeal ls I = true ∧ okIdeal ls J = true ∧ IdAt K H1 a I ∧ ∀ H', Grows H1 H' → Q (.bl (lies (partsOf I) (partsOf J))) H')
section
variable {P : Program} {w : World} {K : PySem.W.Frag} {mg : Str → Option Value} {base : Heap}
theorem scLies : FnScope ["one", "other", "at", "spot", "part", "there"] ["one", "other"] (defScope sLies) := ⟨rfl, rfl, rfl, by decide +kernel, rfl, by decide +kernel, by decide +kernel⟩
theorem ok_lies {f f1 : Addr} {fd fd1 : FuncData} (F : L2.Fun K "lies_within" "lies_within" sLies f fd) (B : Blt mg) (G : FnOk P w K mg base CX0 1 f1 fd1 ["lot", "part"] (spHasAll K)) (D : Def mg K "has_all" f1 fd1 ["lot", "part"]) : FnOk P w K mg base CX0 2 f fd ["one", "other"] (spLies K) := by
  refine F.ok scLies (fun vs H Q E h => ?_) (fun cdv A outer s H vs Q E hr h => ⟨_,
    pss_cons (ps_asg (pe_tup (pa_cons pe_int (pa_cons pe_int pa_nil))) (pg_tup rfl (pgs_cons (pg_name (i := 2) scLies.nd rfl (Or.inl rfl)) (pgs_cons (pg_name (i := 3) scLies.nd rfl (Or.inl rfl)) pgs_nil))))
    (pss_cons (ps_while PassesOwn.never (pt_cmpR op_lt (pv 2) (pe_callB call_len_seq (by rfl) B.len PySem.boot_len (pa_cons (pv 0) pa_nil)) (nomark _))
      (pss_cons (ps_if (pt_cmpR op_eq (pv 3) (pe_callB call_len_seq (by rfl) B.len PySem.boot_len (pa_cons (pv 1) pa_nil)) (nomark _)) (pss_one (ps_ret pe_bl)) pss_nil)
      (pss_cons (ps_par (i := 4) (j := 5) rfl scLies.nd rfl rfl (by decide) rfl rfl (pa_cons (pe_ix ix_tup (pv 0) (pv 2) (fun _ _ => rfl)) (pa_cons (pe_ix ix_tup (pv 1) (pv 3) (fun _ _ => rfl)) pa_nil)) rfl)
      (pss_one (ps_if (pt_truth (pe_call G hr (by rfl) D.g D.k D.b .nil pass0 (pa_cons (pv 5) (pa_cons (pv 4) pa_nil))) (by intro _; rfl))
        (pss_one (ps_aug (i := 2) scLies.nd rfl (Or.inl rfl) pe_int ip_add))
        (pss_one (ps_if (pt_cmpR (op_eqD (by have := hr.un; show (A.deeper _).units + 64 < _; omega)) (pv 4) (pv 5) (nomark _))
          (pss_one (ps_par (i := 2) (j := 3) rfl scLies.nd rfl rfl (by decide) rfl rfl (pa_cons (pe_op op_add (pv 2) pe_int) (pa_cons (pe_op op_add (pv 3) pe_int) pa_nil)) rfl))
          (pss_one (ps_aug (i := 3) scLies.nd rfl (Or.inl rfl) pe_int ip_add)))))))))
    (pss_one (ps_ret pe_bl))), ?_⟩)
  · obtain ⟨a, b, I, J, rfl, _⟩ := h
    rfl
  · obtain ⟨a, b, I, J, rfl, hI, hJ, tI, tJ, q⟩ := h
    have sz : sizeLine = 16777216 := sizeLine_eq
    refine ⟨by show 2 ≤ sizeLine; decide, fun tp ntp => ⟨tp, _, rfl, .inl (.inl upd_same), rfl, _, _, rfl, _, _, rfl, rfl, ?_⟩⟩
    have gt : Grows H (upd H tp (.tup [.int 0, .int 0])) := Grows.new ntp
    generalize upd H tp (.tup [.int 0, .int 0]) = H0 at gt ⊢
    refine ⟨fun m σ H' => ∃ (i j : Nat) (v4 v5 : Option V), m = I.length - i + (J.length - j) ∧ i ≤ I.length ∧ j ≤ J.length ∧ σ = [some (.ref a), some (.ref b), some (.int (i : Nat)), some (.int (j : Nat)), v4, v5] ∧ Grows H H' ∧ lies (partsOf I) (partsOf J) = lies (partsOf (I.drop i)) (partsOf (J.drop j)), ⟨_, 0, 0, none, none, rfl, Nat.zero_le _, Nat.zero_le _, rfl, gt, rfl⟩, ?_⟩
    rintro m σ H1 ⟨i, j, v4, v5, rfl, hi, hj, rfl, g1, he⟩
    refine ⟨_, rfl, _, rfl, a, _, rfl, .inr (g1.t hI.seq), _, _, rfl, rfl, _, rfl, ?_⟩
    rw [refs_len]
    by_cases hlt : i < I.length
    · refine if_pos_of (decide_eq_true (by omega)) ⟨fun σ' H' => ∃ m', m' < I.length - i + (J.length - j) ∧ _, fun σ' H' h => h, ?_⟩
      have hgi : I[i]? = some I[i] := List.getElem?_eq_getElem hlt
      have hdi : I.drop i = I[i] :: I.drop (i + 1) := List.drop_eq_getElem_cons hlt
      generalize I[i] = p at hgi hdi
      have hpm : p ∈ I := List.mem_of_getElem? hgi
      refine ⟨_, rfl, _, rfl, b, _, rfl, .inr (g1.t hJ.seq), rfl, _, rfl, ?_⟩
      rw [refs_len]
      by_cases hjl : j = J.length
      · refine if_pos_of (decide_eq_true (by rw [hjl])) ?_
        have e : lies (partsOf I) (partsOf J) = false := by
          rw [he, hdi, hjl, List.drop_length]
          exact lies_out _ _
        have := q H1 g1
        rw [e] at this
        exact this
      · refine if_neg_of (by rw [decide_eq_false (fun z => hjl (by have := V.int.inj z; omega))]; decide) ?_
        have hjlt : j < J.length := by omega
        have hgj : J[j]? = some J[j] := List.getElem?_eq_getElem hjlt
        have hdj : J.drop j = J[j] :: J.drop (j + 1) := List.drop_eq_getElem_cons hjlt
        generalize J[j] = r at hgj hdj
        have hrm : r ∈ J := List.mem_of_getElem? hgj
        have ei : (refsP I)[i]? = some (.ref p.1) := by unfold refsP; rw [List.getElem?_map, hgi]; rfl
        have ej : (refsP J)[j]? = some (.ref r.1) := by unfold refsP; rw [List.getElem?_map, hgj]; rfl
        have hI1 := hI.grows g1
        have hJ1 := hJ.grows g1
        refine ⟨_, rfl, _, rfl, a, _, _, _, rfl, rfl, hI1.seq, atI_nat ei, _, rfl, _, rfl, b, _, _, _, rfl, rfl, hJ1.seq, atI_nat ej, _, _, rfl, ?_⟩
        have ec : lies (partsOf I) (partsOf J) = if hasAll r.2 p.2 then lies (partsOf (I.drop (i + 1))) (partsOf (J.drop j)) else if p.2 = r.2 then lies (partsOf (I.drop (i + 1))) (partsOf (J.drop (j + 1))) else lies (partsOf (I.drop i)) (partsOf (J.drop (j + 1))) := by
          rw [he, hdi, hdj]
          exact lies_cons _ _ _ _
        refine ⟨_, rfl, _, rfl, r, p, rfl, hJ1.parts r hrm, hI1.parts p hpm, by have := (tI p hpm).1; omega, fun H2 g2 => ⟨_, rfl, ?_⟩⟩
        have g12 := g1.trans g2
        cases eh : hasAll r.2 p.2 with
        | true =>
          rw [eh, if_pos rfl] at ec
          refine if_pos_of rfl ⟨_, rfl, _, _, rfl, rfl, _, by omega, i + 1, j, _, _, rfl, by omega, hj, rfl, g12, ec⟩
        | false =>
          rw [eh, if_neg (by decide)] at ec
          refine if_neg_of (by decide) ⟨_, rfl, _, rfl, pData p.2, pData r.2, part_dp ((hI.grows g12).parts p hpm), part_dp ((hJ.grows g12).parts r hrm), pData_shaped (tI p hpm), pData_shaped (tJ r hrm), _, rfl, ?_⟩
          rw [eqv_part]
          by_cases ep : p.2 = r.2
          · rw [if_pos ep] at ec
            exact if_pos_of (decide_eq_true ep) ⟨_, rfl, _, _, rfl, rfl, _, rfl, _, _, rfl, rfl, _, _, rfl, _, by omega, i + 1, j + 1, _, _, rfl, by omega, by omega, rfl, g12, ec⟩
          · rw [if_neg ep] at ec
            exact if_neg_of (by rw [decide_eq_false ep]; decide) ⟨_, rfl, _, _, rfl, rfl, _, by omega, i, j + 1, _, _, rfl, hi, by omega, rfl, g12, ec⟩
    · refine if_neg_of (by rw [decide_eq_false (by omega)]; decide) ?_
      have e : lies (partsOf I) (partsOf J) = true := by
        rw [he, List.drop_eq_nil_of_le (by omega)]
        exact lies_nil _
      have := q H1 g1
      rw [e] at this
      exact this
end
end SWL
set_option Elab.async false
set_option linter.all false
set_option maxRecDepth 100000
set_option maxHeartbeats 4000000
namespace SWL
open PySem PySem.Spec PyProof.Rows L2 LamX
def spWithin2 (K : PySem.W.Frag) (CN CI : Addr) : Sp := fun vs H Q E => ∃ x y z, vs = [x, y, z] ∧ ((BadL K H x ∧ ∀ H', Grows H H' → E (.ref CN) none H') ∨ ∃ ls, x = .str ls ∧ ls.length ≤ sizeLine ∧ okLetters ls = true ∧ ((BadI K H ls y ∧ ∀ H', Grows H H' → E (.ref CI) none H') ∨
  ∃ a I, y = .ref a ∧ IdAt K H a I ∧ okIdeal ls I = true ∧ ((BadI K H ls z ∧ ∀ H', Grows H H' → E (.ref CI) none H') ∨ ∃ b J, z = .ref b ∧ IdAt K H b J ∧ okIdeal ls J = true ∧ ∀ H', Grows H H' → Q (.bl (lies (partsOf I) (partsOf J))) H')))
section
variable {P : Program} {w : World} {K : PySem.W.Frag} {mg : Str → Option Value} {base : Heap}
theorem scWithin : FnScope ["letters", "one", "other"] ["letters", "one", "other"] (defScope sWithin) := ⟨rfl, rfl, rfl, by decide +kernel, rfl, by decide +kernel, by decide +kernel⟩
theorem ok_within {f f1 f2 CN CI : Addr} {fd fd1 fd2 : FuncData} (F : L2.Fun K "is_within" "is_within" sWithin f fd)
    (G1 : FnOk P w K mg base (L2.CX P w) 5 f1 fd1 ["letters", "thing"] (spNeedIdeal K CN CI)) (D1 : Def mg K "need_ideal" f1 fd1 ["letters", "thing"])
    (G2 : FnOk P w K mg base CX0 2 f2 fd2 ["one", "other"] (spLies K)) (D2 : Def mg K "lies_within" f2 fd2 ["one", "other"]) : FnOk P w K mg base (L2.CX P w) 6 f fd ["letters", "one", "other"] (spWithin2 K CN CI) := by
  refine F.okX scWithin (fun vs H Q E h => ?_) (fun cdv A outer s H vs Q E hr h => ⟨_,
    pss_cons (ps_expr (pe_call G1 (hr.mono (by decide)) (by rfl) D1.g D1.k D1.b .nil (passes_call (takes_of rfl rfl rfl rfl) fun _ _ _ _ h => h) (pa_cons (pv 0) (pa_cons (pv 1) pa_nil))))
    (pss_cons (ps_expr (pe_call G1 (hr.mono (by decide)) (by rfl) D1.g D1.k D1.b .nil (passes_call (takes_of rfl rfl rfl rfl) fun _ _ _ _ h => h) (pa_cons (pv 0) (pa_cons (pv 2) pa_nil))))
    (pss_one (ps_ret (pe_call G2 (hr.mono (by decide)) (by rfl) D2.g D2.k D2.b .nil pass0 (pa_cons (pv 1) (pa_cons (pv 2) pa_nil)))))), ?_⟩)
  · obtain ⟨x, y, z, rfl, _⟩ := h
    rfl
  · obtain ⟨x, y, z, rfl, h⟩ := h
    refine ⟨_, rfl, _, rfl, x, y, rfl, ?_⟩
    rcases h with h | ⟨ls, rfl, hls, hok, h | ⟨a, I, rfl, hI, hgood, h⟩⟩
    · exact .inl h
    · exact .inr ⟨ls, rfl, hls, hok, .inl h⟩
    · refine .inr ⟨ls, rfl, hls, hok, .inr ⟨a, I, rfl, hI, hgood, fun H1 g1 => ?_⟩⟩
      refine ⟨_, rfl, _, rfl, .str ls, z, rfl, .inr ⟨ls, rfl, hls, hok, ?_⟩⟩
      rcases h with ⟨h, q⟩ | ⟨b, J, rfl, hJ, hgJ, q⟩
      · exact .inl ⟨h.grows g1, fun H' g => q H' (g1.trans g)⟩
      · obtain ⟨_, hp⟩ := okIdeal_part hgood
        obtain ⟨_, hpJ⟩ := okIdeal_part hgJ
        exact .inr ⟨b, J, rfl, hJ.grows g1, hgJ, fun H2 g2 => ⟨_, rfl, _, rfl, a, b, I, J, rfl, hI.grows (g1.trans g2), hJ.grows (g1.trans g2), fun y hy => text_ok (hp y hy), fun y hy => text_ok (hpJ y hy), fun H3 g3 => q H3 ((g1.trans g2).trans g3)⟩⟩
end
end SWL
set_option Elab.async false
set_option linter.all false
set_option maxRecDepth 100000
set_option maxHeartbeats 4000000
namespace SWL
open PySem PySem.Spec PyProof.Rows L2 LamX
def spMoIn (K : PySem.W.Frag) : Sp := fun vs H Q _ => ∃ a I z, vs = [.ref a, .str z] ∧ IdAt K H a I ∧ I.length ≤ 1000 ∧ ∀ H', Grows H H' → Q (.bl (inI I z.cps.toList)) H'
def piece (n : Nat) (p : Part) : Str := if p.lot then Txt.mul p.text n else p.text
def joinT (I : List Part) (n : Nat) : Str := Txt.join "" (I.map (piece n))
theorem piece_len {n : Nat} {p : Part} (hn : n ≤ 20) (h4 : p.text.length ≤ 4) : (piece n p).length ≤ 80 := by
  unfold piece
  split
  · rw [← cut_len, mul_cps, List.length_flatten, List.map_replicate, List.sum_replicate_nat, cut_len]
    have : n * p.text.length ≤ 20 * 4 := Nat.mul_le_mul hn h4
    omega
  · omega
theorem pieces_len {n : Nat} : ∀ l : List LP, (∀ p ∈ l, (piece n p.2).length ≤ 80) → (((partsOf l).map (piece n)).map (·.length)).sum ≤ 80 * l.length := by
  intro l
  induction l with
  | nil => intro _; exact Nat.le_refl _
  | cons p l ih =>
    intro h
    have h1 := h p List.mem_cons_self
    have h2 := ih fun y hy => h y (List.mem_cons_of_mem p hy)
    unfold partsOf at h2 ⊢
    simp only [List.map_cons, List.sum_cons, List.length_cons]
    omega
def spMoJoined (K : PySem.W.Frag) : Sp := fun vs H Q _ => ∃ a I, ∃ n : Nat, vs = [.ref a, .int n] ∧ IdAt K H a I ∧ I.length ≤ 1000 ∧ (∀ q ∈ I, q.2.text.length ≤ 4) ∧ n ≤ 20 ∧ ∀ H', Grows H H' → Q (.str (joinT (partsOf I) n)) H'
section
variable {P : Program} {w : World} {K : PySem.W.Frag} {mg : Str → Option Value} {base : Heap}
theorem scMoRest : FnScope ["ideal", "letter", "at", "part"] ["ideal", "letter"] (defScope sMoRest) := ⟨rfl, rfl, rfl, by decide +kernel, rfl, by decide +kernel, by decide +kernel⟩
theorem ok_moRest {f : Addr} {fd : FuncData} (F : L2.Fun K "_law_mo_rest" "_law_mo_rest" sMoRest f fd) (B : Blt mg) : FnOk P w K mg base CX0 1 f fd ["ideal", "letter"] (spBehind K) := by
  refine F.ok scMoRest (fun vs H Q E h => ?_) (fun cdv A outer s H vs Q E hr h => ⟨_,
    pss_cons (ps_for PassesOwn.never rfl (pi_enumT (by rfl) B.enum (pa_cons (pv 0) pa_nil)) (pg_tup rfl (pgs_cons (pg_name (i := 2) scMoRest.nd rfl (Or.inl rfl)) (pgs_cons (pg_name (i := 3) scMoRest.nd rfl (Or.inl rfl)) pgs_nil)))
      (pss_one (ps_if (pt_cmpR op_inS (pv 1) (pe_ix ix_tup (pv 3) pe_int (fun _ _ => rfl)) rfl) (pss_one (ps_ret (pe_slice sl_tupA (pv 0) (po_some (pe_op op_add (pv 2) (pe_callTy call_int1 (by rfl) B.int (by decide +kernel) (pa_cons (pe_cmpR op_eq (pe_ix ix_tup (pv 3) pe_int (fun _ _ => rfl)) pe_str (nomark _)) pa_nil)))) po_none))) pss_nil)))
    (pss_one (ps_ret pe_non)), ?_⟩)
  · obtain ⟨a, I, c, rfl, _⟩ := h
    rfl
  · obtain ⟨a, I, c, rfl, hI, hl, q0, q1⟩ := h
    have sz : sizeLine = 16777216 := sizeLine_eq
    refine ⟨_, rfl, a, _, rfl, hI.seq, for_it walk_enumT (fun i σ H' => (∃ v2 v3 : Option V, σ = [some (.ref a), some (.str ⟨#[c]⟩), v2, v3]) ∧ Grows H H' ∧ behind c I = behind c (I.drop i)) ⟨⟨none, none, rfl⟩, Grows.refl H, rfl⟩ (fun i σ H' _ h => h.2.1.t hI.seq) ?_ ?_⟩
    · rintro i x σ H1 H1' hi ⟨⟨v2, v3, rfl⟩, g1, hb⟩ ⟨T, y, z, rfl, nT, rfl, hy, hz⟩
      obtain rfl := Option.some.inj hy
      obtain ⟨q, hq, rfl⟩ := refs_get hz
      have gT : Grows H1 (upd H1 T (.tup [.int (i : Nat), .ref q.1])) := Grows.new nT
      have kT : upd H1 T (.tup [.int (i : Nat), .ref q.1]) T = some (.tup [.int (i : Nat), .ref q.1]) := upd_same
      generalize upd H1 T (.tup [.int (i : Nat), .ref q.1]) = H2 at gT kT ⊢
      have g2 := g1.trans gT
      have hI2 := hI.grows g2
      have hqm : q ∈ I := List.mem_of_getElem? hq
      have hdrop : I.drop i = q :: I.drop (i + 1) := by
        obtain ⟨hlt, e⟩ := List.getElem?_eq_some_iff.mp hq
        rw [← e]
        exact List.drop_eq_getElem_cons hlt
      refine ⟨T, _, rfl, .inl (.inl kT), rfl, _, _, rfl, _, _, rfl, rfl, ?_⟩
      have eb : behind c I = if c ∈ q.2.text.cps.toList then some (if q.2.lot then q :: I.drop (i + 1) else I.drop (i + 1)) else behind c (I.drop (i + 1)) := by rw [hb, hdrop]; rfl
      refine ⟨_, rfl, _, rfl, q.1, _, 1, _, rfl, rfl, hI2.parts q hqm, atI_nat (j := 1) rfl, c, q.2.text, rfl, rfl, _, rfl, ?_⟩
      by_cases hc : c ∈ q.2.text.cps.toList
      · rw [if_pos hc] at eb
        refine if_pos_of (decide_eq_true hc) ?_
        refine ⟨_, rfl, _, rfl, _, rfl, q.1, _, 0, _, rfl, rfl, hI2.parts q hqm, atI_nat (j := 0) rfl, rfl, .inr ⟨_, rfl, ?_⟩⟩
        rw [kindV_may]
        cases el : q.2.lot with
        | true =>
          rw [el] at eb
          rw [if_pos rfl, ← hdrop] at eb
          exact ⟨_, _, rfl, rfl, _, rfl, by rw [show (((i : Nat) : Int) + if (!true) = true then 1 else 0) = ((i : Nat) : Int) from Int.add_zero _]; exact from_ideal hI2 fun H3 b g3 hb => q1 _ H3 b (g2.trans g3) eb hb⟩
        | false =>
          rw [el] at eb
          rw [if_neg (by decide)] at eb
          exact ⟨_, _, rfl, rfl, _, rfl, from_ideal (k := i + 1) hI2 fun H3 b g3 hb => q1 _ H3 b (g2.trans g3) eb hb⟩
      · rw [if_neg hc] at eb
        exact if_neg_of (by rw [decide_eq_false hc]; decide) ⟨⟨_, _, rfl⟩, g2, eb⟩
    · rintro σ H1 ⟨⟨v2, v3, rfl⟩, g1, hb⟩
      rw [refs_len, List.drop_length] at hb
      exact q0 H1 g1 hb
theorem scMoIn : FnScope ["ideal", "word", "rest", "letter"] ["ideal", "word"] (defScope sMoIn) := ⟨rfl, rfl, rfl, by decide +kernel, rfl, by decide +kernel, by decide +kernel⟩
theorem ok_moIn {f f3 : Addr} {fd fd3 : FuncData} (F : L2.Fun K "_law_mo_in" "_law_mo_in" sMoIn f fd)
    (G3 : FnOk P w K mg base CX0 1 f3 fd3 ["ideal", "letter"] (spBehind K)) (D3 : Def mg K "_law_mo_rest" f3 fd3 ["ideal", "letter"]) : FnOk P w K mg base CX0 2 f fd ["ideal", "word"] (spMoIn K) := by
  refine F.ok scMoIn (fun vs H Q E h => ?_) (fun cdv A outer s H vs Q E hr h => ⟨_,
    pss_cons (ps_set (i := 2) scMoIn.nd rfl (Or.inl rfl) (pv 0))
    (pss_cons (ps_for PassesOwn.never rfl (pi_str (pv 1)) (pg_name (i := 3) scMoIn.nd rfl (Or.inl rfl))
      (pss_cons (ps_set (i := 2) scMoIn.nd rfl (Or.inl rfl) (pe_call G3 (hr.mono (by decide)) (by rfl) D3.g D3.k D3.b .nil pass0 (pa_cons (pv 2) (pa_cons (pv 3) pa_nil))))
      (pss_one (ps_if (pt_cmpR op_isN1 (pv 2) pe_non (nomark _)) (pss_one (ps_ret pe_bl)) pss_nil))))
    (pss_one (ps_ret pe_bl))), ?_⟩)
  · obtain ⟨a, I, z, rfl, _⟩ := h
    rfl
  · obtain ⟨a, I, z, rfl, hI, hl0, q⟩ := h
    refine ⟨_, rfl, _, rfl, z, rfl, for_it walk_str (fun i σ H' => Grows H H' ∧ ∃ (b : Addr) (J : List LP) (v : Option V), σ = [some (.ref a), some (.str z), some (.ref b), v] ∧ IdAt K H' b J ∧ J.length ≤ 1000 ∧ inI I z.cps.toList = inI J (z.cps.toList.drop i)) ⟨Grows.refl H, a, I, none, rfl, hI, hl0, rfl⟩ (fun _ _ _ _ _ => trivial) ?_ ?_⟩
    · rintro i x σ H3 H3' hi ⟨g3, b, J, v, rfl, hJ, hl, he⟩ ⟨rfl, c, hc, rfl⟩
      have hc' : z.cps.toList[i]? = some c := by rw [Array.getElem?_toList]; exact hc
      have hdrop : z.cps.toList.drop i = c :: z.cps.toList.drop (i + 1) := by
        obtain ⟨hlt, e⟩ := List.getElem?_eq_some_iff.mp hc'
        rw [← e]
        exact List.drop_eq_getElem_cons hlt
      have he2 : inI I z.cps.toList = match behind c J with
        | none => false
        | some L => inI L (z.cps.toList.drop (i + 1)) := by rw [he, hdrop]; rfl
      refine ⟨_, rfl, _, rfl, b, J, c, rfl, hJ, hl, fun H4 g4 hn => ?_, fun L H4 b' g4 hs hL => ?_⟩
      · rw [hn] at he2
        refine ⟨_, rfl, rfl, _, rfl, if_pos_of rfl ?_⟩
        have := q H4 (g3.trans g4)
        rw [he2] at this
        exact this
      · rw [hs] at he2
        exact ⟨_, rfl, rfl, _, rfl, if_neg_of (by rw [decide_eq_false (by intro z; cases z)]; decide) ⟨g3.trans g4, b', L, _, rfl, hL, Nat.le_trans (behind_len hs) hl, he2⟩⟩
    · rintro σ H3 ⟨g3, b, J, v, rfl, hJ, hl, he⟩
      have e : z.cps.toList.drop z.cps.size = [] := List.drop_eq_nil_of_le (by rw [Array.length_toList]; exact Nat.le_refl _)
      rw [e] at he
      have := q H3 g3
      rw [he] at this
      cases J <;> exact this
theorem scMoJoined : FnScope ["ideal", "n", "part"] ["ideal", "n"] (defScope sMoJoined) := ⟨rfl, rfl, rfl, by decide +kernel, rfl, by decide +kernel, by decide +kernel⟩
theorem ok_moJoined {f : Addr} {fd : FuncData} (F : L2.Fun K "_law_mo_joined" "_law_mo_joined" sMoJoined f fd) (B : Blt mg) : FnOk P w K mg base CX0 1 f fd ["ideal", "n"] (spMoJoined K) := by
  refine F.ok scMoJoined (fun vs H Q E h => ?_) (fun cdv A outer s H vs Q E hr h => ⟨_,
    pss_one (ps_ret (pe_join pe_str (pe_lc (own := [("part", 2)]) (g := gName 2) (tt := tYes) (te := tIf (tTest (tOp rEq (tOp (rIxT K) (tVar 2) (tC (.int 0))) (tC (.str "may")))) (tOp (rIxT K) (tVar 2) (tC (.int 1))) (tOp (fun x y H Q => ∃ (z : Str) (n : Nat), x = .str z ∧ y = .int n ∧ n ≤ 1000000 ∧ z.length * n ≤ 1000000 ∧ Q (.str (Txt.mul z n)) H) (tOp (rIxT K) (tVar 2) (tC (.int 1))) (tVar 1))) rfl scMoJoined.nd (pi_tup (pv 0)) (blkOk_by (N := ["ideal", "n", "part"]) (sc := defScope sMoJoined) (by decide +kernel))
      (fun _ _ _ _ _ => pg_name (i := 2) scMoJoined.nd rfl (Or.inl rfl)) (fun _ _ _ _ _ => pts_nil)
      (fun _ _ _ _ _ => pe_ifExp (pt_cmpR op_eq (pe_ix ix_tup (pv 2) pe_int (fun _ _ => rfl)) pe_str (nomark _)) (pe_ix ix_tup (pv 2) pe_int (fun _ _ => rfl)) (pe_op op_mulS (pe_ix ix_tup (pv 2) pe_int (fun _ _ => rfl)) (pv 1)))))), ?_⟩)
  · obtain ⟨a, I, n, rfl, _⟩ := h
    rfl
  · obtain ⟨a, I, n, rfl, hI, hl, h4, hn, q⟩ := h
    have sz : sizeLine = 16777216 := sizeLine_eq
    refine ⟨⟨_, rfl⟩, _, rfl, a, rfl, ⟨_, hI.seq⟩, fun D nD => comp1 (walk_refs (I := I)) (fun _ => true) (fun q => .str (piece n q.2)) nD (fun H' g => g.t hI.seq) (by omega) (fun x H k _ g hk => hk H (Grows.refl H)) (fun x H Q hx _ g hk => ?_) (fun H2 g2 hD => ?_)⟩
    · have hx1 := (hI.parts x hx).grows g
      refine ⟨_, rfl, x.1, _, 0, _, rfl, rfl, hx1, atI_nat (j := 0) rfl, rfl, _, rfl, ?_⟩
      rw [kindV_may]
      cases el : x.2.lot with
      | true =>
        have e : piece n x.2 = Txt.mul x.2.text n := by unfold piece; rw [el]; rfl
        rw [e] at hk
        have := h4 x hx
        have : x.2.text.length * n ≤ 4 * 20 := Nat.mul_le_mul this hn
        exact if_neg_of (by decide) ⟨_, rfl, x.1, _, 1, _, rfl, rfl, hx1, atI_nat (j := 1) rfl, _, rfl, x.2.text, n, rfl, rfl, by omega, by omega, hk H (Grows.refl H)⟩
      | false =>
        have e : piece n x.2 = x.2.text := by unfold piece; rw [el]; rfl
        rw [e] at hk
        exact if_pos_of rfl ⟨_, rfl, x.1, _, 1, _, rfl, rfl, hx1, atI_nat (j := 1) rfl, hk H (Grows.refl H)⟩
    · rw [filter_yes] at hD
      refine ⟨"", D, (partsOf I).map (piece n), rfl, rfl, .inl (.inl (.inl (hD.trans ?_))), ?_, q H2 g2⟩
      · unfold partsOf
        rw [List.map_map, List.map_map]
        rfl
      · have h1 := pieces_len (n := n) I fun p hp => piece_len hn (h4 p hp)
        have e2 : ("" : Str).length = 0 := rfl
        rw [e2, Nat.mul_zero]
        omega
end
end SWL
set_option Elab.async false
set_option linter.all false
set_option maxRecDepth 100000
set_option maxHeartbeats 4000000
namespace SWL
open PySem PySem.Spec PyProof.Rows L2 LamX
/-! what is drawn: letters, parts, ideals -/
def lotOk (ls : Str) : Bool := okLetters ls && decide (ls.length ≤ 3) && decide (0 < ls.length) && ls.cps.toList.all (fun c => decide (c < 128))
theorem lots_ok : lotsL.all lotOk = true := by decide +kernel
structure Lot (ls : Str) : Prop where
  ok : okLetters ls = true
  len : ls.length ≤ 3
  pos : 0 < ls.length
  small : ∀ c ∈ ls.cps.toList, c < 128
theorem lot_of {ls : Str} (h : ls ∈ lotsL) : Lot ls := by
  have e := List.all_eq_true.mp lots_ok ls h
  unfold lotOk at e
  simp only [Bool.and_eq_true, decide_eq_true_eq, List.all_eq_true] at e
  obtain ⟨⟨⟨e1, e2⟩, e3⟩, e4⟩ := e
  exact ⟨e1, e2, e3, e4⟩
theorem rises_pair : ∀ l : List Nat, rises l = true ↔ l.Pairwise (· < ·)
  | [] => by simp [rises]
  | [a] => by simp [rises]
  | a :: b :: r => by
    have ih := rises_pair (b :: r)
    unfold rises
    rw [Bool.and_eq_true, decide_eq_true_eq, ih]
    constructor
    · rintro ⟨h1, h2⟩
      refine List.pairwise_cons.mpr ⟨fun c hc => ?_, h2⟩
      rcases List.mem_cons.mp hc with e | hc
      · rw [e]; exact h1
      · exact Nat.lt_trans h1 ((List.pairwise_cons.mp h2).1 c hc)
    · intro h
      obtain ⟨h1, h2⟩ := List.pairwise_cons.mp h
      exact ⟨h1 b List.mem_cons_self, h2⟩
theorem joined1 (zs : List Nat) : (Txt.join "" (zs.map fun c => (⟨#[c]⟩ : Str))).cps.toList = zs := by
  rw [TL.join_eq]
  have e := TL.tl_join "" (zs.map fun c => (⟨#[c]⟩ : Str))
  have e2 : ∀ l : List Nat, TL.joinL [] ((l.map fun c => (⟨#[c]⟩ : Str)).map TL.tl) = l := by
    intro l
    induction l with
    | nil => rfl
    | cons c l ih =>
      cases l with
      | nil => rfl
      | cons d l =>
        show [c] ++ ([] ++ TL.joinL [] (((d :: l).map fun c => (⟨#[c]⟩ : Str)).map TL.tl)) = _
        rw [ih]
        rfl
  exact e.trans (e2 zs)
theorem okL_sub {ls z : Str} (h : okLetters ls = true) (hs : z.cps.toList.Sublist ls.cps.toList) (hp : 0 < z.length) : okLetters z = true := by
  unfold okLetters at h ⊢
  simp only [Bool.and_eq_true, decide_eq_true_eq, List.all_eq_true] at h ⊢
  obtain ⟨⟨h1, h2⟩, h3, h4⟩ := h
  have hl := hs.length_le
  rw [cut_len, cut_len] at hl
  exact ⟨⟨by omega, by omega⟩, fun c hc => h3 c (hs.subset hc), (rises_pair _).mpr (((rises_pair _).mp h4).sublist hs)⟩
theorem subT_sub {ls z : Str} (hs : ∀ c ∈ z.cps.toList, c ∈ ls.cps.toList) : subT z ls = true := by
  unfold subT
  rw [List.all_eq_true]
  exact fun c hc => decide_eq_true (hs c hc)
theorem okL_one {ls : Str} {c : Nat} (h : okLetters ls = true) (hc : c ∈ ls.cps.toList) : okLetters (⟨#[c]⟩ : Str) = true :=
  okL_sub h (by show List.Sublist [c] _; exact List.singleton_sublist.mpr hc) (by decide : 0 < 1)
/-- what lies beside the draws stays -/
structure Off (H : Hp) (a g : Addr) : Prop where
  st : ∃ ks, H a = some (.dK ks)
  gr : ∃ xs, H g = some (.lst xs)
theorem SAt.off {H : Hp} {a g c : Addr} {cs : List Int} {n : Nat} (s : SAt H a g c cs n) : Off H a g := by
  obtain ⟨gs, r, t, h1, h2, _⟩ := s.ex
  exact ⟨⟨_, h1⟩, ⟨_, h2⟩⟩
theorem Off.keep {H H' : Hp} {a g b : Addr} {o : HO} (f : Off H a g) (x : But H H' a g) (h : H b = some o) (h1 : ∀ ks, o ≠ .dK ks) (h2 : ∀ xs, o ≠ .lst xs) : H' b = some o := by
  obtain ⟨ks, hk⟩ := f.st
  obtain ⟨xs, hx⟩ := f.gr
  exact x b o h (ne_of h hk (h1 ks)) (ne_of h hx (h2 xs))
theorem sqT_but {K : PySem.W.Frag} {H H' : Hp} {a g b : Addr} {xs : List V} (f : Off H a g) (x : But H H' a g) (h : SqT K H b xs) : SqT K H' b xs := by
  refine h.imp (fun r => ?_) id
  rcases r with h | ⟨o, h⟩
  · exact .inl (f.keep x h (by intro ks z; cases z) (by intro ys z; cases z))
  · exact .inr ⟨o, f.keep x h (by intro ks z; cases z) (by intro ys z; cases z)⟩
theorem PartAt.but {K : PySem.W.Frag} {H H' : Hp} {a g : Addr} {q : LP} (f : Off H a g) (x : But H H' a g) (h : PartAt K H q) : PartAt K H' q := sqT_but f x h
theorem IdAt.but {K : PySem.W.Frag} {H H' : Hp} {a g b : Addr} {I : List LP} (f : Off H a g) (x : But H H' a g) (h : IdAt K H b I) : IdAt K H' b I := ⟨sqT_but f x h.seq, fun q hq => (h.parts q hq).but f x⟩
def spMoPart (K : PySem.W.Frag) : Sp := fun vs H Q _ => ∃ (a g c : Addr) (cs : List Int) (n : Nat) (ls : Str), vs = [.ref a, .str ls] ∧ Lot ls ∧ SAt H a g c cs n ∧ n + 10 ≤ 1000000 ∧ ∀ H' q, PartAt K H' q → okPart ls q.2 = true → SAt H' a g c cs (n + 10) → But H H' a g → Q (.ref q.1) H'
def spMoIdeal (K : PySem.W.Frag) : Sp := fun vs H Q _ => ∃ (a g c : Addr) (cs : List Int) (n : Nat) (ls : Str), vs = [.ref a, .str ls] ∧ Lot ls ∧ SAt H a g c cs n ∧ n + 100 ≤ 1000000 ∧ ∀ H' b I, IdAt K H' b I → okIdeal ls I = true → I.length ≤ 5 → SAt H' a g c cs (n + 100) → But H H' a g → Q (.ref b) H'
section
variable {P : Program} {w : World} {K : PySem.W.Frag} {mg : Str → Option Value} {base : Heap}
theorem scMoPart : FnScope ["state", "letters", "lot", "letter"] ["state", "letters"] (defScope sMoPart) := ⟨rfl, rfl, rfl, by decide +kernel, rfl, by decide +kernel, by decide +kernel⟩
theorem ok_moPart {f f1 f2 : Addr} {fd fd1 fd2 : FuncData} (F : L2.Fun K "_law_mo_part" "_law_mo_part" sMoPart f fd) (B : Blt mg)
    (G1 : FnOk P w K mg base CX0 2 f1 fd1 ["state", "room"] spDraw) (D1 : Def mg K "_law_draw" f1 fd1 ["state", "room"])
    (G2 : FnOk P w K mg base CX0 3 f2 fd2 ["state", "some"] spPick) (D2 : Def mg K "_law_pick" f2 fd2 ["state", "some"]) : FnOk P w K mg base CX0 4 f fd ["state", "letters"] (spMoPart K) := by
  refine F.ok scMoPart (fun vs H Q E h => ?_) (fun cdv A outer s H vs Q E hr h => ⟨_,
    pss_cons (ps_if (pt_cmpR op_eq (pe_call G1 (hr.mono (by decide)) (by rfl) D1.g D1.k D1.b .nil pass0 (pa_cons (pv 0) (pa_cons pe_int pa_nil))) pe_int (nomark _))
      (pss_one (ps_ret (pe_tup (pa_cons pe_str (pa_cons (pe_call G2 (hr.mono (by decide)) (by rfl) D2.g D2.k D2.b .nil pass0 (pa_cons (pv 0) (pa_cons (pe_callTy (cr_listStr rfl) (by rfl) B.list (by decide +kernel) (pa_cons (pv 1) pa_nil)) pa_nil))) pa_nil))))) pss_nil)
    (pss_cons (ps_set (i := 2) scMoPart.nd rfl (Or.inl rfl) (pe_join pe_str (pe_lc (own := [("letter", 3)]) (g := gName 3) (tt := tTest (tOp rEq (tCall spDraw [] E0 (tCons (tVar 0) (tCons (tC (.int 2)) tNil))) (tC (.int 0)))) rfl scMoPart.nd (pi_str (pv 1)) (blkOk_by (N := ["state", "letters", "lot", "letter"]) (sc := defScope sMoPart) (by decide +kernel))
      (fun _ _ _ _ _ => pg_name (i := 3) scMoPart.nd rfl (Or.inl rfl)) (fun _ _ _ _ _ => pts_one (pt_cmpR op_eq (pe_call G1 (hr.mono (by decide)) (by rfl) D1.g D1.k D1.b .nil pass0 (pa_cons (pv 0) (pa_cons pe_int pa_nil))) pe_int (nomark _))) (fun _ _ _ _ _ => pv 3))))
    (pss_one (ps_ret (pe_tup (pa_cons pe_str (pa_cons (pe_ifExp (pt_cmpR op_ne (pv 2) pe_str (nomark _)) (pv 2) (pe_ix ix_str (pv 1) pe_int (fun _ _ => rfl))) pa_nil)))))), ?_⟩)
  · obtain ⟨a, g, c, cs, n, ls, rfl, _⟩ := h
    rfl
  · obtain ⟨a, g, c, cs, n, ls, rfl, lo, hs, hn, q⟩ := h
    have sz : sizeLine = 16777216 := sizeLine_eq
    refine ⟨_, rfl, a, g, c, cs, n, 2, rfl, hs, by omega, by decide, by decide, fun H1 k hk0 hk s1 b1 => ⟨rfl, _, rfl, ?_⟩⟩
    have f0 := hs.off
    have f1 := s1.off
    by_cases hk2 : k = 0
    · refine if_pos_of (decide_eq_true (congrArg V.int hk2)) ?_
      refine ⟨_, rfl, _, rfl, ls, rfl, by have := lo.len; omega, fun p np => ?_⟩
      have gp : Grows H1 (upd H1 p (.lst (signsV ls))) := Grows.new np
      have pg : p ≠ g := by
        obtain ⟨xs, hx⟩ := f1.gr
        exact (ne_of_none hx np).symm
      refine ⟨a, g, c, p, cs, n + 1, signsV ls, rfl, s1.grows gp, by omega, upd_same, pg, (fun z => by have := lo.pos; rw [← List.length_eq_zero_iff, signs_len] at z; omega), by rw [signs_len]; have := lo.len; omega, fun H2 y hy s2 b2 => ?_⟩
      obtain ⟨x, hx, rfl⟩ := signs_mem hy
      refine ⟨by show 2 ≤ sizeLine; decide, fun t nt => ?_⟩
      have gt : Grows H2 (upd H2 t (.tup [.str "may", .str ⟨#[x]⟩])) := Grows.new nt
      refine q _ (t, ⟨false, ⟨#[x]⟩⟩) (.inl (.inl upd_same)) ?_ ((s2.grows gt).mono (by omega)) (((b1.trans (But.of gp)).trans b2).trans (But.of gt))
      have e1 := okL_one lo.ok hx
      have e2 : subT (⟨#[x]⟩ : Str) ls = true := subT_sub fun d hd => by
        rcases List.mem_singleton.mp hd with rfl
        exact hx
      show (okLetters ⟨#[x]⟩ && subT ⟨#[x]⟩ ls && (false || decide ((⟨#[x]⟩ : Str).length = 1))) = true
      rw [e1, e2]
      rfl
    · refine if_neg_of (by rw [decide_eq_false (fun z => hk2 (V.int.inj z))]; decide) ?_
      refine ⟨⟨_, rfl⟩, _, rfl, ls, rfl, fun D nD => ?_⟩
      have sD := s1.grows (Grows.new (o := .lst []) nD)
      have dG : D ≠ g := by
        obtain ⟨xs, hx⟩ := f1.gr
        exact (ne_of_none hx nD).symm
      have dA : D ≠ a := by
        obtain ⟨xs, hx⟩ := f1.st
        exact (ne_of_none hx nD).symm
      have dC : D ≠ c := by
        obtain ⟨_, _, _, _, _, h3, _⟩ := s1.ex
        exact (ne_of_none h3 nD).symm
      refine lc_it walk_str (fun j H' => SAt H' a g c cs (n + 1 + j) ∧ But H1 H' a g ∧ ∃ zs : List Nat, zs.Sublist (ls.cps.toList.take j) ∧ H' D = some (.lst (zs.map fun x => V.str ⟨#[x]⟩))) ⟨sD, But.of (Grows.new nD), [], List.nil_sublist _, upd_same⟩ (fun _ _ _ _ => trivial) ?_ ?_
      · rintro j x H2 H3 hj ⟨s2, b2, zs, hzs, hD⟩ ⟨rfl, d, hd, rfl⟩
        have hd' : ls.cps.toList[j]? = some d := by rw [Array.getElem?_toList]; exact hd
        have hj3 : j < 3 := by
          have h1 : ls.cps.size = ls.length := rfl
          have := lo.len
          omega
        have ht : ls.cps.toList.take (j + 1) = ls.cps.toList.take j ++ [d] := take_snoc hd'
        refine ⟨rfl, ?_⟩
        refine ⟨_, rfl, a, g, c, cs, n + 1 + j, 2, rfl, s2, by omega, by decide, by decide, fun H4 k2 hk20 hk22 s4 b4 => ⟨rfl, _, rfl, ?_⟩⟩
        have hD4 : H4 D = some (.lst (zs.map fun x => V.str ⟨#[x]⟩)) := b4 D _ hD dA dG
        by_cases hk3 : k2 = 0
        · refine if_pos_of (decide_eq_true (congrArg V.int hk3)) ?_
          have zl : zs.length ≤ ls.length := by
            have := hzs.length_le
            rw [List.length_take] at this
            rw [← cut_len]
            omega
          refine ⟨_, rfl, _, hD4, by rw [List.length_map]; have := lo.len; omega, ?_, ?_, zs ++ [d], ?_, ?_⟩
          · obtain ⟨gs, r, t, h1, h2, h3, h4⟩ := s4.ex
            exact ⟨gs, r, t, by rw [upd_ne dA.symm]; exact h1, by rw [upd_ne dG.symm]; exact h2, by rw [upd_ne dC.symm]; exact h3, h4⟩
          · intro b o e n1 n2
            rw [upd_ne (ne_of_none e nD)]
            exact b4 b o (b2 b o e n1 n2) n1 n2
          · rw [ht]
            exact hzs.append (List.Sublist.refl _)
          · rw [upd_same, List.map_append]
            rfl
        · refine if_neg_of (by rw [decide_eq_false (fun z => hk3 (V.int.inj z))]; decide) ?_
          exact ⟨s4, b2.trans b4, zs, by rw [ht]; exact hzs.trans (List.sublist_append_left _ _), hD4⟩
      · rintro H2 ⟨s2, b2, zs, hzs, hD⟩
        have hsz : ls.cps.size = ls.length := rfl
        have et : ls.cps.toList.take ls.cps.size = ls.cps.toList := List.take_of_length_le (by rw [Array.length_toList]; exact Nat.le_refl _)
        rw [et] at hzs
        have zl : zs.length ≤ ls.length := by
          have := hzs.length_le
          rw [cut_len] at this
          exact this
        have h3 := lo.len
        refine ⟨"", D, zs.map (fun x => (⟨#[x]⟩ : Str)), rfl, rfl, .inl (.inl (.inl (hD.trans ?_))), ?_, ?_⟩
        · rw [List.map_map]
          rfl
        · have e : ((zs.map fun x => (⟨#[x]⟩ : Str)).map (·.length)).sum ≤ zs.length := by
            clear hzs hD zl
            induction zs with
            | nil => exact Nat.le_refl _
            | cons z zs ih =>
              simp only [List.map_cons, List.sum_cons, List.length_cons]
              have : (⟨#[z]⟩ : Str).length = 1 := rfl
              omega
          have e2 : ("" : Str).length = 0 := rfl
          rw [e2, Nat.mul_zero]
          omega
        · have ej := joined1 zs
          generalize Txt.join "" (zs.map fun x => (⟨#[x]⟩ : Str)) = lot at ej ⊢
          have fin : ∀ z : Str, okLetters z = true → subT z ls = true → 2 ≤ sizeLine ∧ ∀ p, H2 p = none → Q (.ref p) (upd H2 p (.tup [.str "lot", .str z])) := fun z h1 h2 => ⟨by decide, fun t nt => by
            have gt : Grows H2 (upd H2 t (.tup [.str "lot", .str z])) := Grows.new nt
            refine q _ (t, ⟨true, z⟩) (.inl (.inl upd_same)) ?_ ((s2.grows gt).mono (by omega)) ((b1.trans b2).trans (But.of gt))
            show (okLetters z && subT z ls && (true || decide (z.length = 1))) = true
            rw [h1, h2]
            rfl⟩
          refine ⟨_, rfl, rfl, _, rfl, ?_⟩
          by_cases hl : lot = ""
          · refine if_neg_of (by rw [hl]; decide) ?_
            have hp : 0 < ls.cps.toList.length := by rw [cut_len]; exact lo.pos
            have hg : ls.cps.toList[0]? = some ls.cps.toList[0] := List.getElem?_eq_getElem hp
            refine ⟨_, rfl, ls, 0, ls.cps.toList[0], rfl, rfl, by omega, atI_nat (j := 0) hg, ?_⟩
            have hm : ls.cps.toList[0] ∈ ls.cps.toList := List.getElem_mem hp
            exact fin _ (okL_one lo.ok hm) (subT_sub fun d hd => by
              rcases List.mem_singleton.mp hd with rfl
              exact hm)
          · refine if_pos_of (by rw [decide_eq_false (fun z => hl (V.str.inj z))]; rfl) ⟨_, rfl, ?_⟩
            refine fin lot (okL_sub lo.ok (by rw [ej]; exact hzs) ?_) (subT_sub fun d hd => hzs.subset (by rw [← ej]; exact hd))
            refine Nat.pos_of_ne_zero fun z => hl ?_
            have : lot.cps = #[] := Array.size_eq_zero_iff.mp z
            cases lot
            cases this
            rfl
end
end SWL
set_option Elab.async false
set_option linter.all false
set_option maxRecDepth 100000
set_option maxHeartbeats 4000000
namespace SWL
open PySem PySem.Spec PyProof.Rows L2 LamX
def Wd (m : Nat) (ls z : Str) : Prop := (∀ c ∈ z.cps.toList, c ∈ ls.cps.toList) ∧ z.length ≤ m
theorem Wd.mono {m k : Nat} {ls z : Str} (h : Wd m ls z) (hk : m ≤ k) : Wd k ls z := ⟨h.1, Nat.le_trans h.2 hk⟩
theorem app_len (a b : Str) : (a ++ b).length = a.length + b.length := by
  show (a.cps ++ b.cps).size = _
  rw [Array.size_append]
  rfl
theorem app_cps (a b : Str) : (a ++ b).cps.toList = a.cps.toList ++ b.cps.toList := by
  show (a.cps ++ b.cps).toList = _
  simp
def spMoWords : Sp := fun vs H Q _ => ∃ (ls : Str) (m : Nat), vs = [.str ls, .int m] ∧ ls.length ≤ 3 ∧ m ≤ 4 ∧ ∀ (H' : Hp) (p : Addr) (ws : List Str), Grows H H' → H' p = some (.lst (ws.map V.str)) → ws.length ≤ 1000 → (∀ z ∈ ws, Wd m ls z) → Q (.ref p) H'
section
variable {P : Program} {w : World} {K : PySem.W.Frag} {mg : Str → Option Value} {base : Heap}
theorem scMoIdeal : FnScope ["state", "letters", "at"] ["state", "letters"] (defScope sMoIdeal) := ⟨rfl, rfl, rfl, by decide +kernel, rfl, by decide +kernel, by decide +kernel⟩
theorem ok_moIdeal {f f1 f2 : Addr} {fd fd1 fd2 : FuncData} (F : L2.Fun K "_law_mo_ideal" "_law_mo_ideal" sMoIdeal f fd) (B : Blt mg)
    (G1 : FnOk P w K mg base CX0 2 f1 fd1 ["state", "room"] spDraw) (D1 : Def mg K "_law_draw" f1 fd1 ["state", "room"])
    (G2 : FnOk P w K mg base CX0 4 f2 fd2 ["state", "letters"] (spMoPart K)) (D2 : Def mg K "_law_mo_part" f2 fd2 ["state", "letters"]) : FnOk P w K mg base CX0 5 f fd ["state", "letters"] (spMoIdeal K) := by
  refine F.ok scMoIdeal (fun vs H Q E h => ?_) (fun cdv A outer s H vs Q E hr h => ⟨_,
    pss_one (ps_ret (pe_callTy call_tuple_of (by rfl) B.tuple (by decide +kernel) (pa_cons (pe_lc (own := [("at", 2)]) (g := gName 2) (tt := tYes) (te := tCall (spMoPart K) [] E0 (tCons (tVar 0) (tCons (tVar 1) tNil))) rfl scMoIdeal.nd (pi_range1 (by rfl) B.range (pa_cons (pe_call G1 (hr.mono (by decide)) (by rfl) D1.g D1.k D1.b .nil pass0 (pa_cons (pv 0) (pa_cons pe_int pa_nil))) pa_nil)) (blkOk_by (N := ["state", "letters", "at"]) (sc := defScope sMoIdeal) (by decide +kernel))
      (fun _ _ _ _ _ => pg_name (i := 2) scMoIdeal.nd rfl (Or.inl rfl)) (fun _ _ _ _ _ => pts_nil) (fun _ _ _ _ _ => pe_call G2 (hr.mono (by decide)) (by rfl) D2.g D2.k D2.b .nil pass0 (pa_cons (pv 0) (pa_cons (pv 1) pa_nil)))) pa_nil))), ?_⟩)
  · obtain ⟨a, g, c, cs, n, ls, rfl, _⟩ := h
    rfl
  · obtain ⟨a, g, c, cs, n, ls, rfl, lo, hs, hn, q⟩ := h
    have sz : sizeLine = 16777216 := sizeLine_eq
    refine ⟨_, rfl, a, g, c, cs, n, 6, rfl, hs, by omega, by decide, by decide, fun H1 k hk0 hk s1 b1 => ⟨k, rfl, by omega, by omega, fun D nD => ?_⟩⟩
    have f1 := s1.off
    have sD := s1.grows (Grows.new (o := .lst []) nD)
    have dG : D ≠ g := by
      obtain ⟨xs, hx⟩ := f1.gr
      exact (ne_of_none hx nD).symm
    have dA : D ≠ a := by
      obtain ⟨xs, hx⟩ := f1.st
      exact (ne_of_none hx nD).symm
    have dC : D ≠ c := by
      obtain ⟨_, _, _, _, _, h3, _⟩ := s1.ex
      exact (ne_of_none h3 nD).symm
    refine lc_it walk_range (fun j H' => SAt H' a g c cs (n + 1 + 10 * j) ∧ But H1 H' a g ∧ ∃ I : List LP, I.length = j ∧ (∀ q ∈ I, PartAt K H' q ∧ okPart ls q.2 = true) ∧ H' D = some (.lst (refsP I))) ⟨sD, But.of (Grows.new nD), [], rfl, (fun q hq => by cases hq), upd_same⟩ (fun _ _ _ _ => trivial) ?_ ?_
    · rintro j x H2 H3 hj ⟨s2, b2, I, hl, hI, hD⟩ ⟨rfl, rfl⟩
      have hj5 : j < 6 := by omega
      refine ⟨rfl, ?_⟩
      refine ⟨_, rfl, _, rfl, a, g, c, cs, n + 1 + 10 * j, ls, rfl, lo, s2, by omega, fun H4 p hp hok s4 b4 => ?_⟩
      have f2 := s2.off
      have hD4 := b4 D _ hD dA dG
      have tk : ∀ {b xs}, SqT K H4 b xs → SqT K (upd H4 D (.lst (refsP I ++ [.ref p.1]))) b xs := fun h => h.imp (fun r => by
        rcases r with h | ⟨o, h⟩
        · exact .inl (by rw [upd_ne (ne_of h hD4 (by intro z; cases z))]; exact h)
        · exact .inr ⟨o, by rw [upd_ne (ne_of h hD4 (by intro z; cases z))]; exact h⟩) id
      refine ⟨_, hD4, by rw [refs_len]; omega, ?_, ?_, I ++ [p], by rw [List.length_append, hl]; rfl, fun q hq => ?_, ?_⟩
      · obtain ⟨gs, r, t, h1, h2, h3, h4⟩ := (s4.mono (by omega : n + 1 + 10 * j + 10 ≤ n + 1 + 10 * (j + 1))).ex
        exact ⟨gs, r, t, by rw [upd_ne dA.symm]; exact h1, by rw [upd_ne dG.symm]; exact h2, by rw [upd_ne dC.symm]; exact h3, h4⟩
      · intro b o e n1 n2
        rw [upd_ne (ne_of_none e nD)]
        exact b4 b o (b2 b o e n1 n2) n1 n2
      · rcases List.mem_append.mp hq with h | h
        · exact ⟨tk ((hI q h).1.but f2 b4), (hI q h).2⟩
        · rw [List.mem_singleton.mp h]
          exact ⟨tk hp, hok⟩
      · rw [upd_same]
        unfold refsP
        rw [List.map_append]
        rfl
    · rintro H2 ⟨s2, b2, I, hl, hI, hD⟩
      refine ⟨D, _, rfl, .inl ⟨.inl (.inl hD), fun t nt => ?_⟩⟩
      have gt : Grows H2 (upd H2 t (.tup (refsP I))) := Grows.new nt
      have h5 : I.length ≤ 5 := by omega
      refine q _ t I ⟨.inl (.inl upd_same), fun q hq => (hI q hq).1.grows gt⟩ ?_ h5 ((s2.grows gt).mono (by omega)) ((b1.trans b2).trans (But.of gt))
      unfold okIdeal
      rw [Bool.and_eq_true, List.all_eq_true]
      exact ⟨decide_eq_true (by omega), fun q hq => (hI q hq).2⟩
theorem scMoWords : FnScope ["letters", "most", "found", "layer", "turn", "later", "word", "letter"] ["letters", "most"] (defScope sMoWords) := ⟨rfl, rfl, rfl, by decide +kernel, rfl, by decide +kernel, by decide +kernel⟩
theorem ok_moWords {f : Addr} {fd : FuncData} (F : L2.Fun K "_law_mo_words" "_law_mo_words" sMoWords f fd) (B : Blt mg) : FnOk P w K mg base CX0 1 f fd ["letters", "most"] spMoWords := by
  refine F.ok scMoWords (fun vs H Q E h => ?_) (fun cdv A outer s H vs Q E hr h => ⟨_,
    pss_cons (ps_par (i := 2) (j := 3) rfl scMoWords.nd rfl rfl (by decide) rfl rfl (pa_cons (pe_lst (pa_cons pe_str pa_nil)) (pa_cons (pe_lst (pa_cons pe_str pa_nil)) pa_nil)) rfl)
    (pss_cons (ps_for PassesOwn.never rfl (pi_range1 (by rfl) B.range (pa_cons (pv 1) pa_nil)) (pg_name (i := 4) scMoWords.nd rfl (Or.inl rfl))
      (pss_cons (ps_set (i := 5) scMoWords.nd rfl (Or.inl rfl) (pe_lst pa_nil))
      (pss_cons (ps_for PassesOwn.never rfl (pi_list (pv 3)) (pg_name (i := 6) scMoWords.nd rfl (Or.inr rfl))
        (pss_one (ps_expr (pe_bm PySem.F.plainAttrs_list PySem.F.slot_list_extend PySem.F.type_list_extend mt_extend (pv 5) (pa_cons (pe_lc (own := [("letter", 7)]) (g := gName 7) (tt := tYes) rfl scMoWords.nd (pi_str (pv 0)) (blkOk_by (N := ["letters", "most", "found", "layer", "turn", "later", "word", "letter"]) (sc := defScope sMoWords) (by decide +kernel))
          (fun _ _ _ _ _ => pg_name (i := 7) scMoWords.nd rfl (Or.inl rfl)) (fun _ _ _ _ _ => pts_nil) (fun _ _ _ _ _ => pe_op op_add_str (pv 6) (pv 7))) pa_nil)))))
      (pss_cons (ps_set (i := 3) scMoWords.nd rfl (Or.inl rfl) (pv 5))
      (pss_one (ps_set (i := 2) scMoWords.nd rfl (Or.inl rfl) (pe_op op_cat (pv 2) (pv 3))))))))
    (pss_one (ps_ret (pv 2)))), ?_⟩)
  · obtain ⟨ls, m, rfl, _⟩ := h
    rfl
  · obtain ⟨ls, m, rfl, hls, hm, q⟩ := h
    have sz : sizeLine = 16777216 := sizeLine_eq
    have pw : (3 : Nat) ^ 4 = 81 := rfl
    refine ⟨by show 1 ≤ sizeLine; decide, fun p0 np0 => ⟨by show 1 ≤ sizeLine; decide, fun p1 np1 => ⟨_, _, rfl, ?_⟩⟩⟩
    have ga : Grows H (upd H p0 (.lst [.str ""])) := Grows.new np0
    have ka : upd H p0 (.lst [.str ""]) p0 = some (.lst (([""] : List Str).map V.str)) := upd_same
    generalize upd H p0 (.lst [.str ""]) = Ha at ga ka np1 ⊢
    have gb : Grows Ha (upd Ha p1 (.lst [.str ""])) := Grows.new np1
    have kb : upd Ha p1 (.lst [.str ""]) p1 = some (.lst (([""] : List Str).map V.str)) := upd_same
    generalize upd Ha p1 (.lst [.str ""]) = Hb at gb kb ⊢
    have w0 : Wd 0 ls "" := ⟨(fun c hc => by cases hc), Nat.le_refl _⟩
    refine ⟨_, rfl, _, rfl, by omega, by omega, for_it walk_range (fun i σ H' => ∃ (pf pl : Addr) (F L : List Str) (v4 v5 v6 v7 : Option V), σ = [some (.str ls), some (.int (m : Nat)), some (.ref pf), some (.ref pl), v4, v5, v6, v7] ∧ i ≤ 4 ∧ Grows H H' ∧ H' pf = some (.lst (F.map V.str)) ∧ H' pl = some (.lst (L.map V.str)) ∧ F.length ≤ 2 * 3 ^ i ∧ L.length ≤ 3 ^ i ∧ (∀ z ∈ F, Wd i ls z) ∧ ∀ z ∈ L, Wd i ls z)
      ⟨p0, p1, [""], [""], none, none, none, none, rfl, Nat.zero_le _, ga.trans gb, gb _ _ ka, kb, by decide, by decide, fun z hz => by rw [List.mem_singleton.mp hz]; exact w0, fun z hz => by rw [List.mem_singleton.mp hz]; exact w0⟩ (fun _ _ _ _ _ => trivial) ?_ ?_⟩
    · rintro i x σ H1 H1' hi ⟨pf, pl, Fw, L, v4, v5, v6, v7, rfl, hi4, g1, hF, hL, lF, lL, wF, wL⟩ ⟨rfl, rfl⟩
      have him : i < m := by simpa using hi
      have p3 : 3 ^ i ≤ 81 := by
        rw [← pw]
        exact Nat.pow_le_pow_right (by decide) (by omega)
      refine ⟨by show 0 ≤ sizeLine; decide, fun D nD => ?_⟩
      have gD : Grows H1' (upd H1' D (.lst [])) := Grows.new nD
      refine ⟨_, rfl, pl, rfl, ⟨_, .inl (.inl (gD _ _ hL))⟩, for_list (K := K) (a := pl) (xs := L.map V.str) (fun j σ H' => (∃ v6 v7 : Option V, σ = [some (.str ls), some (.int (m : Nat)), some (.ref pf), some (.ref pl), some (.int (0 + (i : Int))), some (.ref D), v6, v7]) ∧ Grows H1' H' ∧ ∃ X : List Str, H' D = some (.lst (X.map V.str)) ∧ X.length ≤ 3 * j ∧ ∀ z ∈ X, Wd (i + 1) ls z)
        ⟨⟨v6, v7, rfl⟩, gD, [], upd_same, Nat.zero_le _, fun z hz => by cases hz⟩ (fun j σ H' _ h => .inl (.inl (h.2.1 _ _ hL))) ?_ ?_⟩
      · rintro j x σ H2 hj ⟨⟨v6, v7, rfl⟩, g2, X, hX, lX, wX⟩
        rw [List.getElem?_map] at hj
        obtain ⟨z, hz, rfl⟩ : ∃ z, L[j]? = some z ∧ x = .str z := by
          cases e : L[j]? with
          | none => rw [e] at hj; cases hj
          | some z => rw [e] at hj; exact ⟨z, rfl, (Option.some.inj hj).symm⟩
        have hzm : z ∈ L := List.mem_of_getElem? hz
        have hjl : j < L.length := (List.getElem?_eq_some_iff.mp hz).1
        have wz := wL z hzm
        refine ⟨_, rfl, .inl ⟨rfl, _, .inl (.inl hX)⟩, _, rfl, ls, rfl, fun E2 nE => comp1 (I := ls.cps.toList) (gv := fun c => V.str ⟨#[c]⟩) (by have := walk_signs ls; unfold signsV at this; rw [List.length_map] at this; exact this) (fun _ => true) (fun c => .str (z ++ ⟨#[c]⟩)) nE (fun _ _ => trivial) (by rw [cut_len]; omega) (fun x H k _ g hk => hk H (Grows.refl H)) (fun c H Q hc _ g hk => ?_) (fun H3 g3 hE => ?_)⟩
        · exact ⟨_, rfl, _, rfl, z, ⟨#[c]⟩, rfl, rfl, (by have := wz.2; show z.length + 1 ≤ sizeLine; omega), hk H (Grows.refl H)⟩
        · rw [filter_yes] at hE
          have hX3 := g3 _ _ hX
          have eE : H3 E2 = some (.lst ((ls.cps.toList.map fun c => z ++ (⟨#[c]⟩ : Str)).map V.str)) := by rw [hE, List.map_map]; rfl
          have nED : D ≠ E2 := ne_of_none hX nE
          refine ⟨D, E2, _, _, rfl, rfl, hX3, eE, by rw [List.length_map, List.length_map, List.length_map, cut_len]; omega, ?_⟩
          refine ⟨⟨_, _, rfl⟩, fun b u e => ?_, X ++ ls.cps.toList.map fun c => z ++ (⟨#[c]⟩ : Str), ?_, ?_, fun y hy => ?_⟩
          · rw [upd_ne (ne_of_none e nD)]
            exact g3 _ _ (g2 b u e)
          · rw [upd_same, List.map_append]
          · rw [List.length_append, List.length_map, cut_len]
            omega
          · rcases List.mem_append.mp hy with h | h
            · exact wX y h
            · obtain ⟨c, hc, rfl⟩ := List.mem_map.mp h
              refine ⟨fun d hd => ?_, ?_⟩
              · rw [app_cps] at hd
                rcases List.mem_append.mp hd with h | h
                · exact wz.1 d h
                · rw [List.mem_singleton.mp h]
                  exact hc
              · rw [app_len]
                have := wz.2
                show z.length + 1 ≤ i + 1
                omega
      · rintro σ H2 ⟨⟨v6, v7, rfl⟩, g2, X, hX, lX, wX⟩
        rw [List.length_map] at lX
        have hF2 := g2 _ _ hF
        have lX3 : X.length ≤ 3 ^ (i + 1) := by
          rw [Nat.pow_succ]
          omega
        refine ⟨_, rfl, _, rfl, _, rfl, pf, D, _, _, rfl, rfl, hF2, hX, by rw [List.length_map, List.length_map]; omega, fun S nS => ?_⟩
        rw [← List.map_append]
        have gS : Grows H2 (upd H2 S (.lst ((Fw ++ X).map V.str))) := Grows.new nS
        refine ⟨S, D, Fw ++ X, X, _, _, _, _, rfl, by omega, (g1.trans g2).trans gS, upd_same, gS _ _ hX, ?_, lX3, fun z hz => ?_, wX⟩
        · rw [List.length_append, Nat.pow_succ]
          omega
        · rcases List.mem_append.mp hz with h | h
          · exact (wF z h).mono (by omega)
          · exact wX z h
    · rintro σ H1 ⟨pf, pl, Fw, L, v4, v5, v6, v7, rfl, hi4, g1, hF, hL, lF, lL, wF, wL⟩
      have e : ((m : Nat) : Int).toNat = m := by omega
      rw [e] at lF wF
      have p3 : 3 ^ m ≤ 81 := by
        rw [← pw]
        exact Nat.pow_le_pow_right (by decide) hm
      exact ⟨_, rfl, q H1 pf Fw g1 hF (by omega) wF⟩
end
end SWL
set_option Elab.async false
set_option linter.all false
set_option maxRecDepth 100000
set_option maxHeartbeats 4000000
namespace SWL
open PySem PySem.Spec PyProof.Rows L2 LamX
/-- what is told and what is due: one data -/
def spIsV (K : PySem.W.Frag) (k : Nat) : Sp := fun vs H Q _ => ∃ (x y : V) (d : PyData), vs = [x, y] ∧ Dp K H x d ∧ Dp K H y d ∧ GoodD d ∧ d.depth < k ∧ ∀ H', Grows H H' → Q (.bl true) H'
theorem good_str {z : Str} (h1 : PyData.strOk z = true) (h2 : z.length ≤ 100000) : GoodD (.str z) := by
  refine ⟨?_, Nat.zero_le _, rfl, rfl, rfl⟩
  unfold PyData.layable0
  have e1 : PyData.canLay0 (.str z) = true := h1
  have e2 : PyData.weight (.str z) = z.length := by rw [PyData.weight]; rfl
  rw [e1, e2]
  have : z.length ≤ 2 ^ 20 := by omega
  simp [this, PyData.depth]
theorem good_bool (b : Bool) : GoodD (.bool b) := by
  cases b <;> exact ⟨by decide +kernel, by decide +kernel, by decide +kernel, by decide +kernel, by decide +kernel⟩
section
variable {P : Program} {w : World} {K : PySem.W.Frag} {mg : Str → Option Value} {base : Heap}
theorem ok_isV {f f1 : Addr} {fd fd1 : FuncData} {k : Nat} (F : L2.Fun K "_law_is" "_law_is" sIs f fd) (B : Blt mg) (G : FnOk P w K mg base CX0 (k + 1) f1 fd1 ["value"] (spPlain K k)) (D : Def mg K "_law_plain" f1 fd1 ["value"]) : FnG P w K mg base (k + 2) f fd ["found", "due"] (spIsV K k) := by
  refine fng_ok F scIs (fun vs H Q E h => ?_) (fun cdv A outer s H vs Q E gA _ hr h => ⟨_,
    pss_one (ps_ret (pe_and (pe_call G hr (by rfl) D.g D.k D.b .nil pass0 (pa_cons (pv 0) pa_nil))
      (pe_and (pe_cmpR (op_eqD (by have := hr.un; show (A.deeper _).units + 64 < _; omega)) (pv 0) (pv 1) (nomark _))
      (pe_and (pe_cmpR (op_eqD (by have := hr.un; show (A.deeper _).units + 64 < _; omega)) (pv 1) (pv 0) (nomark _))
      (pe_one (pe_cmpR op_eq (pe_callB (cr_reprD gA (by have := hr.un; show (A.deeper _).units + 64 < _; omega)) (by rfl) B.repr (by decide +kernel) (pa_cons (pv 0) pa_nil)) (pe_callB (cr_reprD gA (by have := hr.un; show (A.deeper _).units + 64 < _; omega)) (by rfl) B.repr (by decide +kernel) (pa_cons (pv 1) pa_nil)) (nomark _))))))), ?_⟩)
  · obtain ⟨a, b, d, rfl, _⟩ := h
    rfl
  · obtain ⟨a, b, d, rfl, h1, h2, g, hk, q⟩ := h
    have fit : d.shown.length ≤ sizeLine := by
      have := PyData.shown_le_of_layable0 g.lay g.short
      exact Nat.le_trans this (by decide)
    refine ⟨_, rfl, _, d, rfl, h1, hk, fun H1 g1 => ⟨true, rfl, if_pos_of rfl ?_⟩⟩
    have k1 := g1.dp _ _ h1
    have k2 := g1.dp _ _ h2
    refine ⟨_, rfl, _, rfl, d, d, k1, k2, g.shaped, g.shaped, PyData.eqv d d, rfl, ?_⟩
    rw [PySem.SeqAt.eqv_refl d g.can]
    refine if_pos_of rfl ⟨_, rfl, _, rfl, d, d, k2, k1, g.shaped, g.shaped, PyData.eqv d d, rfl, ?_⟩
    rw [PySem.SeqAt.eqv_refl d g.can]
    refine if_pos_of rfl ⟨_, rfl, a, d, rfl, k1, g.sh, g.nd, g.dep, fit, _, rfl, b, d, rfl, k2, g.sh, g.nd, g.dep, fit, rfl, ?_⟩
    rw [decide_eq_true rfl]
    exact q H1 g1
end
end SWL
set_option Elab.async false
set_option linter.all false
set_option maxRecDepth 100000
set_option maxHeartbeats 4000000
namespace SWL
open PySem PySem.Spec
/-! the mathematics: words of ideals -/
abbrev Wl := List Nat
def tl (p : Part) : List Nat := p.text.cps.toList
/-- the words of an ideal -/
inductive Mem : List Part → Wl → Prop
  | nil (I : List Part) : Mem I []
  | skip {p : Part} {I : List Part} {w : Wl} : Mem I w → Mem (p :: I) w
  | may {p : Part} {I : List Part} {c : Nat} {w : Wl} : p.lot = false → c ∈ tl p → Mem I w → Mem (p :: I) (c :: w)
  | lot {p : Part} {I : List Part} {c : Nat} {w : Wl} : p.lot = true → c ∈ tl p → Mem (p :: I) w → Mem (p :: I) (c :: w)
def behindP (c : Nat) : List Part → Option (List Part)
  | [] => none
  | q :: r => if c ∈ tl q then some (if q.lot then q :: r else r) else behindP c r
def inP : List Part → Wl → Bool
  | _, [] => true
  | I, c :: w => match behindP c I with
    | none => false
    | some J => inP J w
theorem behind_parts (c : Nat) : ∀ I : List LP, (behind c I).map partsOf = behindP c (partsOf I)
  | [] => rfl
  | q :: r => by
    have ih := behind_parts c r
    show (if c ∈ q.2.text.cps.toList then some (if q.2.lot then q :: r else r) else behind c r).map partsOf = if c ∈ tl q.2 then some (if q.2.lot then q.2 :: partsOf r else partsOf r) else behindP c (partsOf r)
    unfold tl
    by_cases h : c ∈ q.2.text.cps.toList
    · rw [if_pos h, if_pos h]
      cases q.2.lot <;> rfl
    · rw [if_neg h, if_neg h]
      exact ih
theorem in_parts : ∀ (w : Wl) (I : List LP), inI I w = inP (partsOf I) w
  | [], I => by cases I <;> rfl
  | c :: w, I => by
    have h := behind_parts c I
    show (match behind c I with | none => false | some J => inI J w) = match behindP c (partsOf I) with | none => false | some J => inP J w
    rw [← h]
    cases behind c I with
    | none => rfl
    | some J => exact in_parts w J
theorem mem_behind {c : Nat} : ∀ {I J : List Part} {w : Wl}, behindP c I = some J → Mem J w → Mem I (c :: w)
  | [], _, _, h, _ => by cases h
  | q :: r, J, w, h, m => by
    unfold behindP at h
    by_cases hc : c ∈ tl q
    · rw [if_pos hc] at h
      have e := Option.some.inj h
      cases el : q.lot with
      | true =>
        rw [el, if_pos rfl] at e
        rw [← e] at m
        exact .lot el hc m
      | false =>
        rw [el, if_neg (by decide)] at e
        rw [← e] at m
        exact .may el hc m
    · rw [if_neg hc] at h
      exact .skip (mem_behind h m)
theorem mem_of_in : ∀ (w : Wl) (I : List Part), inP I w = true → Mem I w
  | [], I, _ => .nil I
  | c :: w, I, h => by
    unfold inP at h
    cases e : behindP c I with
    | none => rw [e] at h; cases h
    | some J =>
      rw [e] at h
      exact mem_behind e (mem_of_in w J h)
theorem mem_left {I : List Part} {w : Wl} (h : Mem I w) : w = [] ∨ I ≠ [] := by
  cases h with
  | nil => exact .inl rfl
  | skip => exact .inr (by simp)
  | may => exact .inr (by simp)
  | lot => exact .inr (by simp)
/-- what is behind a letter of a word is of the ideal's rest, and of the ideal -/
theorem mem_split : ∀ {I : List Part} {x : Wl}, Mem I x → ∀ {c : Nat} {w : Wl}, x = c :: w → (∃ J, behindP c I = some J ∧ Mem J w) ∧ Mem I w := by
  intro I x h
  induction h with
  | nil I => intro c w e; cases e
  | @skip p I x h ih =>
    intro c w e
    obtain ⟨⟨J, h1, h2⟩, h3⟩ := ih e
    refine ⟨?_, .skip h3⟩
    unfold behindP
    by_cases hc : c ∈ tl p
    · rw [if_pos hc]
      refine ⟨_, rfl, ?_⟩
      cases p.lot
      · exact h3
      · exact .skip h3
    · rw [if_neg hc]
      exact ⟨J, h1, h2⟩
  | @may p I d x hl hd h ih =>
    intro c w e
    obtain ⟨rfl, rfl⟩ := List.cons.inj e
    refine ⟨⟨I, ?_, h⟩, .skip h⟩
    unfold behindP
    rw [if_pos hd, hl]
    rfl
  | @lot p I d x hl hd h ih =>
    intro c w e
    obtain ⟨rfl, rfl⟩ := List.cons.inj e
    refine ⟨⟨p :: I, ?_, h⟩, h⟩
    unfold behindP
    rw [if_pos hd, hl]
    rfl
theorem in_of_mem : ∀ (w : Wl) (I : List Part), Mem I w → inP I w = true
  | [], I, _ => by cases I <;> rfl
  | c :: w, I, h => by
    obtain ⟨⟨J, h1, h2⟩, _⟩ := mem_split h rfl
    unfold inP
    rw [h1]
    exact in_of_mem w J h2
theorem in_iff (I : List Part) (w : Wl) : inP I w = true ↔ Mem I w := ⟨mem_of_in w I, in_of_mem w I⟩
theorem mem_tail : ∀ (u : Wl) {I : List Part} {v : Wl}, Mem I (u ++ v) → Mem I v
  | [], I, v, h => h
  | c :: u, I, v, h => mem_tail u (mem_split h rfl).2
/-- what a part gives -/
def Gives (p : Part) (u : Wl) : Prop := (∀ c ∈ u, c ∈ tl p) ∧ (p.lot = false → u.length ≤ 1)
theorem mem_part : ∀ {I : List Part} {x : Wl}, Mem I x → ∀ {p : Part} {R : List Part}, I = p :: R → ∃ u v, x = u ++ v ∧ Gives p u ∧ Mem R v := by
  intro I x h
  induction h with
  | nil I => intro p R e; exact ⟨[], [], rfl, ⟨(fun c hc => by cases hc), fun _ => Nat.zero_le _⟩, .nil R⟩
  | @skip p I x h ih =>
    intro q R e
    obtain ⟨rfl, rfl⟩ := List.cons.inj e
    exact ⟨[], x, rfl, ⟨(fun c hc => by cases hc), fun _ => Nat.zero_le _⟩, h⟩
  | @may p I d x hl hd h ih =>
    intro q R e
    obtain ⟨rfl, rfl⟩ := List.cons.inj e
    exact ⟨[d], x, rfl, ⟨fun c hc => by rw [List.mem_singleton.mp hc]; exact hd, fun _ => Nat.le_refl _⟩, h⟩
  | @lot p I d x hl hd h ih =>
    intro q R e
    obtain ⟨rfl, rfl⟩ := List.cons.inj e
    obtain ⟨u, v, rfl, hu, hv⟩ := ih rfl
    refine ⟨d :: u, v, rfl, ⟨fun c hc => ?_, fun z => by rw [hl] at z; cases z⟩, hv⟩
    rcases List.mem_cons.mp hc with rfl | hc
    · exact hd
    · exact hu.1 c hc
theorem mem_give {p : Part} {R : List Part} : ∀ {u v : Wl}, Gives p u → Mem R v → Mem (p :: R) (u ++ v)
  | [], v, _, h => .skip h
  | c :: u, v, g, h => by
    have hc := g.1 c List.mem_cons_self
    cases el : p.lot with
    | true => exact .lot el hc (mem_give ⟨fun d hd => g.1 d (List.mem_cons_of_mem c hd), fun z => by rw [el] at z; cases z⟩ h)
    | false =>
      have h1 := g.2 el
      have : u = [] := List.length_eq_zero_iff.mp (by rw [List.length_cons] at h1; omega)
      rw [this]
      exact .may el hc h
/-- a part that may stand in an ideal -/
def PartOk (p : Part) : Prop := tl p ≠ [] ∧ (p.lot = false → (tl p).length = 1)
theorem partOk_of {ls : Str} {p : Part} (h : okPart ls p = true) : PartOk p := by
  have hl := text_len h
  have e : (tl p).length = p.text.length := cut_len p.text
  refine ⟨fun z => ?_, fun z => ?_⟩
  · rw [z] at e
    have := hl.2.1
    rw [← e] at this
    cases this
  · unfold okPart at h
    rw [z, Bool.false_or, Bool.and_eq_true, decide_eq_true_eq] at h
    rw [e]
    exact h.2
/-- the letters of a piece -/
def pieceL (n : Nat) (p : Part) : Wl := if p.lot then (List.replicate n (tl p)).flatten else tl p
theorem piece_l (n : Nat) (p : Part) : (piece n p).cps.toList = pieceL n p := by
  unfold piece pieceL tl
  split
  · exact mul_cps _ _
  · rfl
def joinL (I : List Part) (n : Nat) : Wl := (I.map (pieceL n)).flatten
theorem join_l (I : List Part) (n : Nat) : (joinT I n).cps.toList = joinL I n := by
  unfold joinT joinL
  rw [TL.join_eq]
  refine (TL.tl_join "" (I.map (piece n))).trans ?_
  induction I with
  | nil => rfl
  | cons p I ih =>
    cases I with
    | nil =>
      show (piece n p).cps.toList = pieceL n p ++ []
      rw [piece_l, List.append_nil]
    | cons q I =>
      show (piece n p).cps.toList ++ ([] ++ TL.joinL [] (((q :: I).map (piece n)).map TL.tl)) = _
      rw [piece_l, List.nil_append]
      exact congrArg (pieceL n p ++ ·) ih
theorem gives_piece {n : Nat} {p : Part} (h : PartOk p) : Gives p (pieceL n p) := by
  unfold pieceL
  cases el : p.lot with
  | true =>
    rw [if_pos rfl]
    refine ⟨fun c hc => ?_, fun z => by rw [el] at z; cases z⟩
    obtain ⟨l, hl, hc⟩ := List.mem_flatten.mp hc
    rw [(List.mem_replicate.mp hl).2] at hc
    exact hc
  | false =>
    rw [if_neg (by decide)]
    exact ⟨fun c hc => hc, fun _ => by rw [h.2 el]; exact Nat.le_refl _⟩
theorem mem_join {n : Nat} : ∀ {I : List Part}, (∀ p ∈ I, PartOk p) → Mem I (joinL I n)
  | [], _ => .nil []
  | p :: I, h => mem_give (gives_piece (h p List.mem_cons_self)) (mem_join fun q hq => h q (List.mem_cons_of_mem p hq))
theorem sub_rep {t : Wl} : ∀ {n : Nat} {u : Wl}, (∀ c ∈ u, c ∈ t) → u.length ≤ n → u.Sublist (List.replicate n t).flatten
  | n, [], _, _ => List.nil_sublist _
  | 0, c :: u, _, h => by cases h
  | n + 1, c :: u, hu, h => by
    rw [List.replicate_succ, List.flatten_cons]
    show ([c] ++ u).Sublist _
    exact (List.singleton_sublist.mpr (hu c List.mem_cons_self)).append (sub_rep (fun d hd => hu d (List.mem_cons_of_mem c hd)) (by rw [List.length_cons] at h; omega))
theorem sub_piece {n : Nat} {p : Part} {u : Wl} (h : PartOk p) (g : Gives p u) (hn : u.length ≤ n) : u.Sublist (pieceL n p) := by
  unfold pieceL
  cases el : p.lot with
  | true =>
    rw [if_pos rfl]
    exact sub_rep g.1 hn
  | false =>
    rw [if_neg (by decide)]
    have h1 := g.2 el
    cases u with
    | nil => exact List.nil_sublist _
    | cons c u =>
      have : u = [] := List.length_eq_zero_iff.mp (by rw [List.length_cons] at h1; omega)
      rw [this]
      exact List.singleton_sublist.mpr (g.1 c List.mem_cons_self)
theorem sub_join {n : Nat} : ∀ {I : List Part} {w : Wl}, (∀ p ∈ I, PartOk p) → Mem I w → w.length ≤ n → w.Sublist (joinL I n)
  | [], w, _, h, _ => by
    rcases mem_left h with rfl | z
    · exact List.nil_sublist _
    · exact absurd rfl z
  | p :: I, w, hp, h, hn => by
    obtain ⟨u, v, rfl, g, m⟩ := mem_part h rfl
    rw [List.length_append] at hn
    exact (sub_piece (hp p List.mem_cons_self) g (by omega)).append (sub_join (fun q hq => hp q (List.mem_cons_of_mem p hq)) m (by omega))
theorem adv_sub (l : Wl) : ∀ (cs : Wl) (i : Nat), i ≤ l.length → (l.drop i).Sublist cs → cs.foldl (adv l) i = l.length
  | [], i, hi, h => by
    have := List.sublist_nil.mp h
    have h2 : (l.drop i).length = 0 := by rw [this]; rfl
    rw [List.length_drop] at h2
    show i = l.length
    omega
  | c :: cs, i, hi, h => by
    rw [List.foldl_cons]
    by_cases e : l[i]? = some c
    · have e1 : adv l i c = i + 1 := if_pos e
      obtain ⟨hlt, e2⟩ := List.getElem?_eq_some_iff.mp e
      rw [e1]
      rw [List.drop_eq_getElem_cons hlt, e2] at h
      exact adv_sub l cs (i + 1) hlt (List.cons_sublist_cons.mp h)
    · have e1 : adv l i c = i := if_neg e
      rw [e1]
      refine adv_sub l cs i hi ?_
      have hd : ∀ r, l.drop i ≠ c :: r := fun r z => e (by
        have : (l.drop i)[0]? = some c := by rw [z]; rfl
        rw [List.getElem?_drop] at this
        exact this)
      generalize l.drop i = d at h hd
      cases h with
      | cons _ h => exact h
      | cons_cons _ h => exact absurd rfl (hd _)
theorem strewn_sub {a b : Str} (h : a.cps.toList.Sublist b.cps.toList) : strewnB a b = true := by
  unfold strewnB
  refine decide_eq_true ?_
  rw [adv_sub a.cps.toList b.cps.toList 0 (Nat.zero_le _) h]
  exact cut_len a
end SWL
set_option Elab.async false
set_option linter.all false
set_option maxRecDepth 100000
set_option maxHeartbeats 4000000
namespace SWL
open PySem PySem.Spec
theorem all_iff (q p : Part) : hasAll q p = true ↔ q.lot = true ∧ ∀ c ∈ tl p, c ∈ tl q := by
  unfold hasAll subT tl
  rw [Bool.and_eq_true, List.all_eq_true]
  exact ⟨fun ⟨h1, h2⟩ => ⟨h1, fun c hc => of_decide_eq_true (h2 c hc)⟩, fun ⟨h1, h2⟩ => ⟨h1, fun c hc => decide_eq_true (h2 c hc)⟩⟩
theorem text_ext {a b : Str} (h : a.cps.toList = b.cps.toList) : a = b := by
  cases a with | mk x => cases b with | mk y =>
  have : x = y := Array.toList_inj.mp h
  rw [this]
/-- what lies within has its words there -/
theorem lies_mem : ∀ (n : Nat) (I J : List Part) (w : Wl), I.length + J.length ≤ n → lies I J = true → Mem I w → Mem J w
  | _, [], J, w, _, _, m => by
    rcases mem_left m with rfl | z
    · exact .nil J
    · exact absurd rfl z
  | _, p :: I, [], w, _, h, _ => by rw [lies_out] at h; cases h
  | 0, p :: I, q :: J, w, hn, _, _ => by rw [List.length_cons] at hn; omega
  | n + 1, p :: I, q :: J, w, hn, h, m => by
    rw [lies_cons] at h
    simp only [List.length_cons] at hn
    by_cases ha : hasAll q p = true
    · rw [if_pos ha] at h
      obtain ⟨u, v, rfl, g, mv⟩ := mem_part m rfl
      obtain ⟨hl, hs⟩ := (all_iff q p).mp ha
      have mJ := lies_mem n I (q :: J) v (by simp only [List.length_cons]; omega) h mv
      have all : ∀ (u : Wl), (∀ c ∈ u, c ∈ tl q) → Mem (q :: J) (u ++ v) := by
        intro u
        induction u with
        | nil => intro _; exact mJ
        | cons c u ih => exact fun hu => .lot hl (hu c List.mem_cons_self) (ih fun d hd => hu d (List.mem_cons_of_mem c hd))
      exact all u fun c hc => hs c (g.1 c hc)
    · rw [if_neg ha] at h
      by_cases e : p = q
      · rw [if_pos e] at h
        obtain ⟨u, v, rfl, g, mv⟩ := mem_part m rfl
        rw [e] at g
        exact mem_give g (lies_mem n I J v (by omega) h mv)
      · rw [if_neg e] at h
        exact .skip (lies_mem n (p :: I) J w (by simp only [List.length_cons]; omega) h m)
/-- a join of an ideal, each lot at least so often -/
inductive Long (k : Nat) : List Part → Wl → Prop
  | nil : Long k [] []
  | cons {p : Part} {I : List Part} {m : Nat} {w : Wl} : k ≤ m → Long k I w → Long k (p :: I) (pieceL m p ++ w)
theorem Long.mono {k j : Nat} (h : j ≤ k) {I : List Part} {w : Wl} (l : Long k I w) : Long j I w := by
  induction l with
  | nil => exact .nil
  | cons hm _ ih => exact .cons (Nat.le_trans h hm) ih
theorem long_join (k : Nat) : ∀ I : List Part, Long k I (joinL I k)
  | [] => .nil
  | p :: I => .cons (Nat.le_refl _) (long_join k I)
/-- a lot that is not within a part: behind the part all but the first time of it stays -/
theorem lot_past {p q : Part} {J : List Part} {x : Wl} (hp : PartOk p) (hl : p.lot = true) (hno : ¬ hasAll q p = true) (m : Mem (q :: J) (tl p ++ x)) : Mem J x := by
  obtain ⟨u, v, e, g, mv⟩ := mem_part m rfl
  have hu : u.length ≤ (tl p).length := by
    cases eq : q.lot with
    | false =>
      have := g.2 eq
      have h1 : 0 < (tl p).length := List.length_pos_iff.mpr hp.1
      omega
    | true =>
      have hsub : ¬ ∀ c ∈ tl p, c ∈ tl q := fun h => hno ((all_iff q p).mpr ⟨eq, h⟩)
      refine Nat.le_of_not_lt fun hlt => hsub fun c hc => g.1 c ?_
      have h2 := congrArg (List.take (tl p).length) e
      rw [List.take_left, List.take_append_of_le_length (by omega)] at h2
      rw [h2] at hc
      exact List.mem_of_mem_take hc
  have ex : ∃ d, v = d ++ x := by
    have h2 := congrArg (List.drop u.length) e
    rw [List.drop_left, List.drop_append_of_le_length hu] at h2
    exact ⟨_, h2.symm⟩
  obtain ⟨d, rfl⟩ := ex
  exact mem_tail d mv
theorem mem_lies : ∀ (n : Nat) (I J : List Part) (w : Wl), I.length + J.length ≤ n → (∀ p ∈ I, PartOk p) → (∀ q ∈ J, PartOk q) → Long (J.length + 1) I w → Mem J w → lies I J = true
  | _, [], J, _, _, _, _, _, _ => lies_nil J
  | _, p :: I, [], w, _, hI, _, l, m => by
    rcases mem_left m with e | z
    · cases l with
      | @cons _ _ k x hk l =>
        have hp := hI p List.mem_cons_self
        obtain ⟨k, rfl⟩ : ∃ k', k = k' + 1 := ⟨k - 1, by simp only [List.length_nil] at hk; omega⟩
        have : pieceL (k + 1) p = [] := (List.append_eq_nil_iff.mp e).1
        unfold pieceL at this
        split at this
        · rw [List.replicate_succ, List.flatten_cons] at this
          exact absurd (List.append_eq_nil_iff.mp this).1 hp.1
        · exact absurd this hp.1
    · exact absurd rfl z
  | 0, p :: I, q :: J, w, hn, _, _, _, _ => by rw [List.length_cons] at hn; omega
  | n + 1, p :: I, q :: J, w, hn, hI, hJ, l, m => by
    rw [lies_cons]
    simp only [List.length_cons] at hn
    have hp := hI p List.mem_cons_self
    have hq := hJ q List.mem_cons_self
    have hI' : ∀ z ∈ I, PartOk z := fun z hz => hI z (List.mem_cons_of_mem p hz)
    have hJ' : ∀ z ∈ J, PartOk z := fun z hz => hJ z (List.mem_cons_of_mem q hz)
    have l0 := l
    cases l with
    | @cons _ _ k x hk l =>
      simp only [List.length_cons] at hk
      by_cases ha : hasAll q p = true
      · rw [if_pos ha]
        exact mem_lies n I (q :: J) x (by simp only [List.length_cons]; omega) hI' hJ l (mem_tail _ m)
      · rw [if_neg ha]
        cases el : p.lot with
        | true =>
          have epl : pieceL k p ++ x = tl p ++ (pieceL (k - 1) p ++ x) := by
            unfold pieceL
            rw [el, if_pos rfl, if_pos rfl]
            obtain ⟨k, rfl⟩ : ∃ k', k = k' + 1 := ⟨k - 1, by omega⟩
            rw [List.replicate_succ, List.flatten_cons, List.append_assoc]
            rfl
          have hne : p ≠ q := fun e => ha ((all_iff q p).mpr ⟨by rw [← e]; exact el, fun c hc => by rw [← e]; exact hc⟩)
          rw [if_neg hne]
          rw [epl] at m
          exact mem_lies n (p :: I) J _ (by simp only [List.length_cons]; omega) hI hJ' (.cons (by omega) (l.mono (by simp only [List.length_cons]; omega))) (lot_past hp el ha m)
        | false =>
          obtain ⟨c, hc⟩ : ∃ c, tl p = [c] := List.length_eq_one_iff.mp (hp.2 el)
          have ep : pieceL k p = [c] := by unfold pieceL; rw [el, if_neg (by decide), hc]
          rw [ep] at m
          obtain ⟨⟨R, hb, mR⟩, _⟩ := mem_split m rfl
          unfold behindP at hb
          by_cases hcq : c ∈ tl q
          · rw [if_pos hcq] at hb
            cases eq : q.lot with
            | true => exact absurd ((all_iff q p).mpr ⟨eq, fun d hd => by rw [hc, List.mem_singleton] at hd; rw [hd]; exact hcq⟩) ha
            | false =>
              obtain ⟨d, hd⟩ : ∃ d, tl q = [d] := List.length_eq_one_iff.mp (hq.2 eq)
              have ecd : c = d := by rw [hd, List.mem_singleton] at hcq; exact hcq
              have e : p = q := by
                have ht : p.text = q.text := text_ext (by show tl p = tl q; rw [hc, hd, ecd])
                cases p with | mk a b => cases q with | mk a' b' =>
                have : a = a' := (show a = false from el).trans (show a' = false from eq).symm
                cases this
                cases (show b = b' from ht)
                rfl
              rw [if_pos e]
              rw [eq, if_neg (by decide)] at hb
              cases Option.some.inj hb
              exact mem_lies n I J x (by omega) hI' hJ' (l.mono (by simp only [List.length_cons]; omega)) mR
          · rw [if_neg hcq] at hb
            have hne : p ≠ q := fun e => hcq (by rw [← e, hc]; exact List.mem_singleton.mpr rfl)
            rw [if_neg hne]
            refine mem_lies n (p :: I) J (pieceL k p ++ x) (by simp only [List.length_cons]; omega) hI hJ' (l0.mono (by simp only [List.length_cons]; omega)) ?_
            rw [ep]
            exact mem_behind hb mR
/-- lies_within, by one long word -/
theorem lies_word {I J : List Part} {n : Nat} (hI : ∀ p ∈ I, PartOk p) (hJ : ∀ q ∈ J, PartOk q) (hn : J.length + 1 ≤ n) : lies I J = inP J (joinL I n) := by
  rw [Bool.eq_iff_iff, in_iff]
  exact ⟨fun h => lies_mem _ I J _ (Nat.le_refl _) h (mem_join hI), fun m => mem_lies _ I J _ (Nat.le_refl _) hI hJ ((long_join n I).mono hn) m⟩
end SWL
set_option Elab.async false
set_option linter.all false
set_option maxRecDepth 100000
set_option maxHeartbeats 4000000
namespace SWL
open PySem PySem.Spec
/-! the plain ideal has the same words -/
theorem mem_app : ∀ (I : List Part) {J : List Part} {w : Wl}, Mem (I ++ J) w ↔ ∃ u v, w = u ++ v ∧ Mem I u ∧ Mem J v
  | [], J, w => by
    constructor
    · intro m
      exact ⟨[], w, rfl, .nil [], m⟩
    · rintro ⟨u, v, rfl, m1, m2⟩
      rcases mem_left m1 with rfl | z
      · exact m2
      · exact absurd rfl z
  | p :: I, J, w => by
    constructor
    · intro m
      obtain ⟨u, v, rfl, g, mv⟩ := mem_part (p := p) (R := I ++ J) m rfl
      obtain ⟨u2, v2, rfl, m1, m2⟩ := (mem_app I).mp mv
      exact ⟨u ++ u2, v2, (List.append_assoc _ _ _).symm, mem_give g m1, m2⟩
    · rintro ⟨u, v, rfl, m1, m2⟩
      obtain ⟨u1, u2, rfl, g, mu⟩ := mem_part m1 rfl
      rw [List.append_assoc]
      exact mem_give g ((mem_app I).mpr ⟨u2, v, rfl, mu, m2⟩)
def Same (I J : List Part) : Prop := ∀ w, Mem I w ↔ Mem J w
theorem Same.refl (I : List Part) : Same I I := fun _ => Iff.rfl
theorem Same.trans {I J L : List Part} (a : Same I J) (b : Same J L) : Same I L := fun w => (a w).trans (b w)
theorem same_left {I J : List Part} (L : List Part) (h : Same I J) : Same (L ++ I) (L ++ J) := fun w => by
  rw [mem_app, mem_app]
  exact ⟨fun ⟨u, v, e, m1, m2⟩ => ⟨u, v, e, m1, (h v).mp m2⟩, fun ⟨u, v, e, m1, m2⟩ => ⟨u, v, e, m1, (h v).mpr m2⟩⟩
theorem same_right {I J : List Part} (L : List Part) (h : Same I J) : Same (I ++ L) (J ++ L) := fun w => by
  rw [mem_app, mem_app]
  exact ⟨fun ⟨u, v, e, m1, m2⟩ => ⟨u, v, e, (h u).mp m1, m2⟩, fun ⟨u, v, e, m1, m2⟩ => ⟨u, v, e, (h u).mpr m1, m2⟩⟩
theorem mem_one {p : Part} {w : Wl} (m : Mem [p] w) : Gives p w := by
  obtain ⟨u, v, rfl, g, mv⟩ := mem_part m rfl
  rcases mem_left mv with rfl | z
  · rw [List.append_nil]; exact g
  · exact absurd rfl z
theorem one_mem {p : Part} {w : Wl} (g : Gives p w) : Mem [p] w := by
  have := mem_give g (.nil [])
  rw [List.append_nil] at this
  exact this
/-- beside a lot that has all its letters a part says nothing -/
theorem same_ahead {p q : Part} (h : hasAll q p = true) : Same [p, q] [q] := fun w => by
  obtain ⟨hl, hs⟩ := (all_iff q p).mp h
  constructor
  · intro m
    obtain ⟨u, v, rfl, g, mv⟩ := mem_part m rfl
    have g2 := mem_one mv
    refine one_mem ⟨fun c hc => ?_, fun z => by rw [hl] at z; cases z⟩
    rcases List.mem_append.mp hc with h | h
    · exact hs c (g.1 c h)
    · exact g2.1 c h
  · intro m
    exact .skip m
theorem same_behind {p q : Part} (h : hasAll p q = true) : Same [p, q] [p] := fun w => by
  obtain ⟨hl, hs⟩ := (all_iff p q).mp h
  constructor
  · intro m
    obtain ⟨u, v, rfl, g, mv⟩ := mem_part m rfl
    have g2 := mem_one mv
    refine one_mem ⟨fun c hc => ?_, fun z => by rw [hl] at z; cases z⟩
    rcases List.mem_append.mp hc with h | h
    · exact g.1 c h
    · exact hs c (g2.1 c h)
  · intro m
    have := mem_give (mem_one m) (.nil [q])
    rw [List.append_nil] at this
    exact this
theorem parts_app (I J : List LP) : partsOf (I ++ J) = partsOf I ++ partsOf J := List.map_append ..
theorem push_same (q : LP) : ∀ s : List LP, Same (partsOf (pushP s q).reverse) (partsOf (s.reverse ++ [q]))
  | [] => Same.refl _
  | z :: r => by
    have e0 : partsOf ((z :: r).reverse ++ [q]) = partsOf r.reverse ++ [z.2, q.2] := by
      rw [List.reverse_cons, parts_app, parts_app, List.append_assoc]
      rfl
    cases h : hasAll q.2 z.2 with
    | true =>
      have e : pushP (z :: r) q = pushP r q := by
        unfold pushP
        rw [List.dropWhile_cons, if_pos h]
      rw [e, e0]
      refine (push_same q r).trans ?_
      rw [parts_app]
      exact same_left _ fun w => (same_ahead h w).symm
    | false =>
      have ed : (z :: r).dropWhile (fun z => hasAll q.2 z.2) = z :: r := by rw [List.dropWhile_cons, if_neg (by rw [h]; decide)]
      cases h2 : hasAll z.2 q.2 with
      | true =>
        have e : pushP (z :: r) q = z :: r := by
          unfold pushP
          rw [ed]
          show (if hasAll z.2 q.2 = true then z :: r else q :: z :: r) = _
          rw [if_pos h2]
        rw [e, e0, List.reverse_cons, parts_app]
        exact same_left _ fun w => (same_behind h2 w).symm
      | false =>
        have e : pushP (z :: r) q = q :: z :: r := by
          unfold pushP
          rw [ed]
          show (if hasAll z.2 q.2 = true then z :: r else q :: z :: r) = _
          rw [if_neg (by rw [h2]; decide)]
        rw [e, List.reverse_cons]
        exact Same.refl _
theorem plainS_same : ∀ (I s : List LP), Same (partsOf (I.foldl pushP s).reverse) (partsOf (s.reverse ++ I))
  | [], s => by rw [List.append_nil]; exact Same.refl _
  | q :: I, s => by
    rw [List.foldl_cons]
    refine (plainS_same I (pushP s q)).trans ?_
    have e : s.reverse ++ q :: I = (s.reverse ++ [q]) ++ I := by rw [List.append_assoc]; rfl
    rw [e, parts_app, parts_app (s.reverse ++ [q])]
    exact same_right _ (push_same q s)
theorem same_plain (I : List LP) : Same (partsOf (plainL I)) (partsOf I) := plainS_same I []
/-- within: all words of the one are of the other -/
theorem lies_iff {I J : List Part} (hI : ∀ p ∈ I, PartOk p) (hJ : ∀ q ∈ J, PartOk q) : lies I J = true ↔ ∀ w, Mem I w → Mem J w := by
  constructor
  · exact fun h w m => lies_mem _ I J w (Nat.le_refl _) h m
  · intro h
    rw [lies_word hI hJ (Nat.le_refl _), in_iff]
    exact h _ (mem_join hI)
end SWL
set_option Elab.async false
set_option linter.all false
set_option maxRecDepth 100000
set_option maxHeartbeats 4000000
namespace SWL
open PySem PySem.Spec PyProof.Rows L2 LamX
theorem cutV_to (xs : List V) (k : Nat) : cutV xs none (some (k : Int)) = xs.take k := by
  have h1 : HT.sIx xs.length 0 none = 0 := rfl
  have h2 : HT.sIx xs.length xs.length (some (k : Int)) = min k xs.length := HT.sIx_nat _ _ k
  unfold cutV
  rw [h1, h2, List.drop_zero, Nat.sub_zero]
  by_cases h : k ≤ xs.length
  · rw [Nat.min_eq_left h]
  · rw [Nat.min_eq_right (by omega), List.take_of_length_le (Nat.le_refl _), List.take_of_length_le (by omega)]
theorem to_ideal {K : PySem.W.Frag} {H : Hp} {a : Addr} {I : List LP} {k : Nat} {Q : VK} (hI : IdAt K H a I) (q : ∀ H' b, Grows H H' → IdAt K H' b (I.take k) → Q (.ref b) H') : rSlA K (.ref a) none (some (k : Int)) H Q := by
  refine ⟨a, refsP I, rfl, hI.seq, fun hw => ?_, fun _ p np => ?_⟩
  · have h1 : HT.sIx (refsP I).length (refsP I).length (some (k : Int)) = min k (refsP I).length := HT.sIx_nat _ _ k
    have h := hw.2
    rw [h1, refs_len] at h
    have e : I.take k = I := List.take_of_length_le (by omega)
    refine q H a (Grows.refl H) ?_
    rw [e]
    exact hI
  · have g := Grows.new (o := .tup (cutV (refsP I) none (some (k : Int)))) np
    refine q _ p g ⟨.inl (.inl ?_), fun z hz => (hI.grows g).parts z (List.mem_of_mem_take hz)⟩
    rw [upd_same, cutV_to]
    unfold refsP
    rw [List.map_take]
theorem cat_ideal {K : PySem.W.Frag} {H : Hp} {a b : Addr} {I J : List LP} {Q : VK} (hI : IdAt K H a I) (hJ : IdAt K H b J) (hl : I.length + J.length ≤ 10000) (q : ∀ H' c, Grows H H' → IdAt K H' c (I ++ J) → Q (.ref c) H') : rCatA K (.ref a) (.ref b) H Q := by
  have sz : sizeLine = 16777216 := sizeLine_eq
  have n0 : ∀ L : List LP, refsP L = [] → L = [] := fun L h => by
    have := refs_len L
    rw [h] at this
    exact List.length_eq_zero_iff.mp this.symm
  refine ⟨a, b, refsP I, refsP J, rfl, rfl, hI.seq, hJ.seq, by rw [refs_len, refs_len]; omega, fun e => ?_, fun _ e => ?_, fun _ _ p np => ?_⟩
  · refine q H b (Grows.refl H) ?_
    rw [n0 I e]
    exact hJ
  · refine q H a (Grows.refl H) ?_
    rw [n0 J e, List.append_nil]
    exact hI
  · have g := Grows.new (o := .tup (refsP I ++ refsP J)) np
    refine q _ p g ⟨.inl (.inl ?_), fun z hz => ?_⟩
    · rw [upd_same]
      unfold refsP
      rw [List.map_append]
    · rcases List.mem_append.mp hz with h | h
      · exact (hI.grows g).parts z h
      · exact (hJ.grows g).parts z h
def spMoWithin (K : PySem.W.Frag) : Sp := fun vs H Q _ => ∃ a b I J, vs = [.ref a, .ref b] ∧ IdAt K H a I ∧ IdAt K H b J ∧ I.length ≤ 1000 ∧ (∀ q ∈ I, q.2.text.length ≤ 4) ∧ J.length + 1 ≤ 20 ∧ ∀ H', Grows H H' → Q (.bl (inI J (joinT (partsOf I) (J.length + 1)).cps.toList)) H'
def spChanged (K : PySem.W.Frag) : Sp := fun vs H Q _ => ∃ (a g c : Addr) (cs : List Int) (n : Nat) (ls : Str) (b : Addr) (I : List LP), vs = [.ref a, .str ls, .ref b] ∧ Lot ls ∧ SAt H a g c cs n ∧ n + 20 ≤ 1000000 ∧ IdAt K H b I ∧ okIdeal ls I = true ∧ I.length ≤ 20 ∧
  ∀ H' b' J, IdAt K H' b' J → okIdeal ls J = true → J.length ≤ I.length + 1 → SAt H' a g c cs (n + 20) → But H H' a g → Q (.ref b') H'
theorem okI_mk {ls : Str} {I : List LP} (hl : I.length ≤ 60) (h : ∀ q ∈ I, okPart ls q.2 = true) : okIdeal ls I = true := by
  unfold okIdeal
  rw [Bool.and_eq_true, List.all_eq_true]
  exact ⟨decide_eq_true hl, h⟩
section
variable {P : Program} {w : World} {K : PySem.W.Frag} {mg : Str → Option Value} {base : Heap}
theorem scMoWithin : FnScope ["one", "other"] ["one", "other"] (defScope sMoWithin) := ⟨rfl, rfl, rfl, by decide +kernel, rfl, by decide +kernel, by decide +kernel⟩
theorem ok_moWithin {f f1 f2 : Addr} {fd fd1 fd2 : FuncData} (F : L2.Fun K "_law_mo_within" "_law_mo_within" sMoWithin f fd) (B : Blt mg)
    (G1 : FnOk P w K mg base CX0 2 f1 fd1 ["ideal", "word"] (spMoIn K)) (D1 : Def mg K "_law_mo_in" f1 fd1 ["ideal", "word"])
    (G2 : FnOk P w K mg base CX0 1 f2 fd2 ["ideal", "n"] (spMoJoined K)) (D2 : Def mg K "_law_mo_joined" f2 fd2 ["ideal", "n"]) : FnOk P w K mg base CX0 3 f fd ["one", "other"] (spMoWithin K) := by
  refine F.ok scMoWithin (fun vs H Q E h => ?_) (fun cdv A outer s H vs Q E hr h => ⟨_,
    pss_one (ps_ret (pe_call G1 (hr.mono (by decide)) (by rfl) D1.g D1.k D1.b .nil pass0 (pa_cons (pv 1) (pa_cons (pe_call G2 (hr.mono (by decide)) (by rfl) D2.g D2.k D2.b .nil pass0 (pa_cons (pv 0) (pa_cons (pe_op op_add (pe_callB call_len_seq (by rfl) B.len PySem.boot_len (pa_cons (pv 1) pa_nil)) pe_int) pa_nil))) pa_nil)))), ?_⟩)
  · obtain ⟨a, b, I, J, rfl, _⟩ := h
    rfl
  · obtain ⟨a, b, I, J, rfl, hI, hJ, hl, h4, hn, q⟩ := h
    exact ⟨_, rfl, _, rfl, _, rfl, b, _, rfl, .inr hJ.seq, _, _, rfl, rfl, a, I, J.length + 1, by rw [refs_len]; rfl, hI, hl, h4, hn, fun H1 g1 => ⟨b, J, _, rfl, hJ.grows g1, by omega, fun H2 g2 => q H2 (g1.trans g2)⟩⟩
theorem scChanged : FnScope ["state", "letters", "ideal", "at", "part"] ["state", "letters", "ideal"] (defScope sChanged) := ⟨rfl, rfl, rfl, by decide +kernel, rfl, by decide +kernel, by decide +kernel⟩
theorem ok_changed {f f1 f2 : Addr} {fd fd1 fd2 : FuncData} (F : L2.Fun K "_law_iw_changed" "_law_iw_changed" sChanged f fd) (B : Blt mg)
    (G1 : FnOk P w K mg base CX0 2 f1 fd1 ["state", "room"] spDraw) (D1 : Def mg K "_law_draw" f1 fd1 ["state", "room"])
    (G2 : FnOk P w K mg base CX0 4 f2 fd2 ["state", "letters"] (spMoPart K)) (D2 : Def mg K "_law_mo_part" f2 fd2 ["state", "letters"]) : FnOk P w K mg base CX0 5 f fd ["state", "letters", "ideal"] (spChanged K) := by
  refine F.ok scChanged (fun vs H Q E h => ?_) (fun cdv A outer s H vs Q E hr h => ⟨_,
    pss_cons (ps_par (i := 3) (j := 4) rfl scChanged.nd rfl rfl (by decide) rfl rfl (pa_cons (pe_call G1 (hr.mono (by decide)) (by rfl) D1.g D1.k D1.b .nil pass0 (pa_cons (pv 0) (pa_cons (pe_op op_add (pe_callB call_len_seq (by rfl) B.len PySem.boot_len (pa_cons (pv 2) pa_nil)) pe_int) pa_nil))) (pa_cons (pe_call G2 (hr.mono (by decide)) (by rfl) D2.g D2.k D2.b .nil pass0 (pa_cons (pv 0) (pa_cons (pv 1) pa_nil))) pa_nil)) rfl)
    (pss_cons (ps_if (pt_cmpR op_eq (pe_call G1 (hr.mono (by decide)) (by rfl) D1.g D1.k D1.b .nil pass0 (pa_cons (pv 0) (pa_cons pe_int pa_nil))) pe_int (nomark _))
      (pss_one (ps_ret (pe_op op_catA (pe_op op_catA (pe_slice sl_tupA (pv 2) po_none (po_some (pv 3))) (pe_tup (pa_cons (pv 4) pa_nil))) (pe_slice sl_tupA (pv 2) (po_some (pv 3)) po_none)))) pss_nil)
    (pss_one (ps_ret (pe_op op_catA (pe_slice sl_tupA (pv 2) po_none (po_some (pv 3))) (pe_slice sl_tupA (pv 2) (po_some (pe_op op_add (pv 3) pe_int)) po_none))))), ?_⟩)
  · obtain ⟨a, g, c, cs, n, ls, b, I, rfl, _⟩ := h
    rfl
  · obtain ⟨a, g, c, cs, n, ls, b, I, rfl, lo, hs, hn, hI, hok, hl, q⟩ := h
    have sz : sizeLine = 16777216 := sizeLine_eq
    obtain ⟨_, hp⟩ := okIdeal_part hok
    refine ⟨_, rfl, _, rfl, b, _, rfl, .inr hI.seq, _, _, rfl, rfl, a, g, c, cs, n, _, rfl, hs, by omega, by rw [refs_len]; omega, by rw [refs_len]; omega, fun H1 k hk0 hk s1 b1 => ?_⟩
    obtain ⟨k, rfl⟩ : ∃ k' : Nat, k = k' := ⟨k.toNat, by omega⟩
    have f0 := hs.off
    have hI1 := hI.but f0 b1
    refine ⟨_, rfl, _, rfl, a, g, c, cs, n + 1, ls, rfl, lo, s1, by omega, fun H2 p hpt hpok s2 b2 => ?_⟩
    have f1 := s1.off
    have hI2 := hI1.but f1 b2
    refine ⟨_, _, rfl, _, rfl, a, g, c, cs, n + 1 + 10, 2, rfl, s2, by omega, by decide, by decide, fun H3 d hd0 hd s3 b3 => ⟨rfl, _, rfl, ?_⟩⟩
    have f2 := s2.off
    have hI3 := hI2.but f2 b3
    have hp3 := hpt.but f2 b3
    have b03 := (b1.trans b2).trans b3
    have h3 := s3.mono (show n + 1 + 10 + 1 ≤ n + 20 by omega)
    by_cases hd2 : d = 0
    · refine if_pos_of (decide_eq_true (congrArg V.int hd2)) ?_
      refine ⟨_, rfl, _, rfl, _, rfl, to_ideal hI3 fun H4 b4 g4 hT => ?_⟩
      refine ⟨_, rfl, by show 1 ≤ sizeLine; omega, fun t nt => ?_⟩
      have gt : Grows H4 (upd H4 t (.tup [.ref p.1])) := Grows.new nt
      have hP : IdAt K (upd H4 t (.tup [.ref p.1])) t [p] := ⟨.inl (.inl upd_same), fun z hz => by rw [List.mem_singleton.mp hz]; exact (hp3.grows g4).grows gt⟩
      generalize upd H4 t (.tup [.ref p.1]) = H5 at gt hP ⊢
      have g5 := g4.trans gt
      refine cat_ideal (hT.grows gt) hP (by rw [List.length_take]; show _ + 1 ≤ _; omega) fun H6 b6 g6 hA => ?_
      have g56 := g5.trans g6
      refine ⟨_, rfl, _, rfl, _, rfl, ?_⟩
      dsimp only [tNoPart]
      refine (from_ideal (hI3.grows g56) fun H7 b7 g7 hD => ?_)
      refine cat_ideal (hA.grows g7) hD (by rw [List.length_append, List.length_take, List.length_drop]; show _ + 1 + _ ≤ _; omega) fun H8 b8 g8 hR => ?_
      have gR := (g56.trans g7).trans g8
      refine q H8 b8 _ hR (okI_mk (by rw [List.length_append, List.length_append, List.length_take, List.length_drop]; show _ + 1 + _ ≤ _; omega) fun z hz => ?_) (by rw [List.length_append, List.length_append, List.length_take, List.length_drop]; show _ + 1 + _ ≤ _; omega) (h3.grows gR) (b03.trans (But.of gR))
      rcases List.mem_append.mp hz with h | h
      · rcases List.mem_append.mp h with h | h
        · exact hp z (List.mem_of_mem_take h)
        · rw [List.mem_singleton.mp h]
          exact hpok
      · exact hp z (List.mem_of_mem_drop h)
    · refine if_neg_of (by rw [decide_eq_false (fun z => hd2 (V.int.inj z))]; decide) ?_
      refine ⟨_, rfl, _, rfl, _, rfl, to_ideal hI3 fun H4 b4 g4 hT => ?_⟩
      refine ⟨_, rfl, _, rfl, _, _, rfl, rfl, _, rfl, ?_⟩
      dsimp only [tNoPart]
      refine (from_ideal (k := k + 1) (hI3.grows g4) fun H7 b7 g7 hD => ?_)
      refine cat_ideal (hT.grows g7) hD (by rw [List.length_take, List.length_drop]; omega) fun H8 b8 g8 hR => ?_
      have gR := (g4.trans g7).trans g8
      refine q H8 b8 _ hR (okI_mk (by rw [List.length_append, List.length_take, List.length_drop]; omega) fun z hz => ?_) (by rw [List.length_append, List.length_take, List.length_drop]; omega) (h3.grows gR) (b03.trans (But.of gR))
      rcases List.mem_append.mp hz with h | h
      · exact hp z (List.mem_of_mem_take h)
      · exact hp z (List.mem_of_mem_drop h)
end
end SWL
set_option Elab.async false
set_option linter.all false
set_option maxRecDepth 100000
set_option maxHeartbeats 8000000
namespace SWL
open PySem PySem.Spec PyProof.Rows L2 LamX
abbrev NL : List Str := ["script", "state", "turn", "other", "third", "first", "second", "due", "word", "bad", "letters", "one"]
theorem scLaw : FnScope NL ["script"] (defScope sLaw) := ⟨rfl, rfl, rfl, by decide +kernel, rfl, by decide +kernel, by decide +kernel⟩
theorem scCaught : FnScope ["action", "found", "error"] ["action"] (defScope sCaught) := ⟨rfl, rfl, rfl, by decide +kernel, rfl, by decide +kernel, by decide +kernel⟩
/-- what the law calls -/
structure Callees (P : Program) (w : World) (K : PySem.W.Frag) (mg : Str → Option Value) (base : Heap) (CN CI CS : Addr) : Prop where
  begun : ∃ f fd, Def mg K "_law_begun" f fd ["script"] ∧ FnOk P w K mg base CX0 1 f fd ["script"] (spBegun K)
  moL : ∃ f fd, Def mg K "_law_mo_letters" f fd ["state"] ∧ FnOk P w K mg base CX0 4 f fd ["state"] spMoL
  pick : ∃ f fd, Def mg K "_law_pick" f fd ["state", "some"] ∧ FnOk P w K mg base CX0 3 f fd ["state", "some"] spPick
  moIdeal : ∃ f fd, Def mg K "_law_mo_ideal" f fd ["state", "letters"] ∧ FnOk P w K mg base CX0 5 f fd ["state", "letters"] (spMoIdeal K)
  moWords : ∃ f fd, Def mg K "_law_mo_words" f fd ["letters", "most"] ∧ FnOk P w K mg base CX0 1 f fd ["letters", "most"] spMoWords
  moIn : ∃ f fd, Def mg K "_law_mo_in" f fd ["ideal", "word"] ∧ FnOk P w K mg base CX0 2 f fd ["ideal", "word"] (spMoIn K)
  moWithin : ∃ f fd, Def mg K "_law_mo_within" f fd ["one", "other"] ∧ FnOk P w K mg base CX0 3 f fd ["one", "other"] (spMoWithin K)
  changed : ∃ f fd, Def mg K "_law_iw_changed" f fd ["state", "letters", "ideal"] ∧ FnOk P w K mg base CX0 5 f fd ["state", "letters", "ideal"] (spChanged K)
  is : ∃ f fd, Def mg K "_law_is" f fd ["found", "due"] ∧ FnG P w K mg base 3 f fd ["found", "due"] (spIsV K 1)
  within : ∃ f fd, Def mg K "is_within" f fd ["letters", "one", "other"] ∧ KBinds K fd ["letters", "one", "other"] ["other", "one", "letters"] (fun us ws => us ++ ws.reverse) (fun us ws => us ++ ws.reverse) ∧ FnOk P w K mg base (L2.CX P w) 6 f fd ["letters", "one", "other"] (spWithin2 K CN CI)
  plainId : ∃ f fd, Def mg K "plain_ideal" f fd ["letters", "ideal"] ∧ FnOk P w K mg base (L2.CX P w) 6 f fd ["letters", "ideal"] (spPlainId K CN CI)
/-- _law_caught, as it stands -/
structure CaughtK (K : PySem.W.Frag) (mg : Str → Option Value) (fC : Addr) : Prop where
  g : mg "_law_caught" = some (.ref fC)
  k : PySem.W.keepIn K (.ref fC) = true
  ex : ∃ (oc kV doc pm cdv ct : Value) (an od : Option Addr) (osl : Array (Option Value)), K.lookup fC = some ⟨oc, od, .func (PySem.W.fnOf "_law_caught" "_law_caught" (defArgs sCaught) (defBody sCaught) (defScope sCaught) .none kV doc pm an cdv ct), osl⟩ ∧ PySem.W.codeIn K cdv "_law_caught" = true ∧
    L2.Binds K (PySem.W.fnOf "_law_caught" "_law_caught" (defArgs sCaught) (defBody sCaught) (defScope sCaught) .none kV doc pm an cdv ct) ["action"] []
def qLam : Str := (envOfC "law" (defScope sLaw) 0 0 .none).qual ++ "<lambda>"
section
variable {P : Program} {w : World} {K : PySem.W.Frag} {mg : Str → Option Value} {base : Heap}
/-- the pieces of the law, statement by statement -/
theorem law_walk {CN CI CS fC f c Pt : Addr} {A : Around} {outer : List Env} {s : Shared} {H : Hp} {E : XK} (B : Blt mg) (C : Callees P w K mg base CN CI CS) (CK : CaughtK K mg fC) (gA : A.guards = some []) (TB : TabB base mg c Pt)
    (mgN : mg "NoLetters" = some (.ref CN)) (mgI : mg "NoIdeal" = some (.ref CI)) (mgS : mg "SwingError" = some (.ref CS)) (hr : Room 8 (A.deeper (envOfC "law" (defScope sLaw) s.heap.objs.size f (.ref c)))) :
    ∃ t, PSs (cxOf CX0 P w K mg base NL "law" (defScope sLaw) f (.ref c) A outer s H E).nox (defBody sLaw) t := by
  obtain ⟨fB, fdB, DB, GB⟩ := C.begun
  obtain ⟨fL, fdL, DL, GL⟩ := C.moL
  obtain ⟨fP, fdP, DP, GP⟩ := C.pick
  obtain ⟨fI, fdI, DI, GI⟩ := C.moIdeal
  obtain ⟨fW, fdW, DW, GW⟩ := C.moWords
  obtain ⟨fM, fdM, DM, GM⟩ := C.moIn
  obtain ⟨fX, fdX, DX, GX⟩ := C.moWithin
  obtain ⟨fY, fdC, DC, GC⟩ := C.changed
  obtain ⟨fS, fdS, DS, GS⟩ := C.is
  obtain ⟨fH, fdH, DH, KH, GH⟩ := C.within
  obtain ⟨fA, fdA, DA, GA⟩ := C.plainId
  obtain ⟨oc, kV, doc, pm, cdv, ct, an, od, osl, lkC, cdC, bC⟩ := CK.ex
  have u64 : (A.deeper (envOfC "law" (defScope sLaw) s.heap.objs.size f (.ref c))).units + 64 < cLine := by have := hr.un; omega
  have gX : (A.deeper (envOfC "law" (defScope sLaw) s.heap.objs.size f (.ref c))).guards = some [] := gA
  exact ⟨_, PSs.nox (pss_cons (ps_set (i := 1) scLaw.nd rfl (Or.inl rfl) (pe_call GB (hr.mono (by decide)) (by rfl) DB.g DB.k DB.b .nil pass0 (pa_cons (pv 0) pa_nil)))
  (pss_cons (ps_for PassesOwn.never rfl (pi_range1 (by rfl) B.range (pa_cons (pe_op op_add pe_int (pe_callB (call_min2 rfl) (by rfl) B.min (by decide +kernel) (pa_cons (pe_callB call_len_seq (by rfl) B.len PySem.boot_len (pa_cons (pv 0) pa_nil)) (pa_cons pe_int pa_nil)))) pa_nil)) (pg_name (i := 2) scLaw.nd rfl (Or.inl rfl)) (pss_cons (ps_set (i := 10) scLaw.nd rfl (Or.inr rfl) (pe_call GL (hr.mono (by decide)) (by rfl) DL.g DL.k DL.b .nil pass0 (pa_cons (pv 1) pa_nil)))
  (pss_cons (ps_set (i := 11) scLaw.nd rfl (Or.inr rfl) (pe_call GI (hr.mono (by decide)) (by rfl) DI.g DI.k DI.b .nil pass0 (pa_cons (pv 1) (pa_cons (pv 10) pa_nil))))
  (pss_cons (ps_set (i := 3) scLaw.nd rfl (Or.inl rfl) (pe_call GP (hr.mono (by decide)) (by rfl) DP.g DP.k DP.b .nil pass0 (pa_cons (pv 1) (pa_cons (pe_lst (pa_cons (pe_call GI (hr.mono (by decide)) (by rfl) DI.g DI.k DI.b .nil pass0 (pa_cons (pv 1) (pa_cons (pv 10) pa_nil))) (pa_cons (pe_call GC (hr.mono (by decide)) (by rfl) DC.g DC.k DC.b .nil pass0 (pa_cons (pv 1) (pa_cons (pv 10) (pa_cons (pv 11) pa_nil)))) (pa_cons (pv 11) pa_nil)))) pa_nil))))
  (pss_cons (ps_set (i := 4) scLaw.nd rfl (Or.inl rfl) (pe_call GC (hr.mono (by decide)) (by rfl) DC.g DC.k DC.b .nil pass0 (pa_cons (pv 1) (pa_cons (pv 10) (pa_cons (pv 3) pa_nil)))))
  (pss_cons (ps_for PassesOwn.never rfl (pi_list (pe_lst (pa_cons (pe_tup (pa_cons (pv 11) (pa_cons (pv 3) pa_nil))) (pa_cons (pe_tup (pa_cons (pv 3) (pa_cons (pv 11) pa_nil))) (pa_cons (pe_tup (pa_cons (pv 3) (pa_cons (pv 4) pa_nil))) (pa_cons (pe_tup (pa_cons (pv 11) (pa_cons (pv 4) pa_nil))) (pa_cons (pe_tup (pa_cons (pv 11) (pa_cons (pv 11) pa_nil))) pa_nil))))))) (pg_tup rfl (pgs_cons (pg_name (i := 5) scLaw.nd rfl (Or.inl rfl)) (pgs_cons (pg_name (i := 6) scLaw.nd rfl (Or.inl rfl)) pgs_nil))) (pss_cons (ps_set (i := 7) scLaw.nd rfl (Or.inl rfl) (pe_call GX (hr.mono (by decide)) (by rfl) DX.g DX.k DX.b .nil pass0 (pa_cons (pv 5) (pa_cons (pv 6) pa_nil))))
  (pss_cons (ps_if (pw_or (pt_not (pt_truth (pe_callG gX GS (hr.mono (by decide)) (by rfl) DS.g DS.k DS.b (pa_cons (pe_call GH (hr.mono (by decide)) (by rfl) DH.g DH.k DH.b .nil (passE0 rfl rfl) (pa_cons (pv 10) (pa_cons (pv 5) (pa_cons (pv 6) pa_nil)))) (pa_cons (pv 7) pa_nil))) (by intro _; rfl))) (pw_or1 (pt_not (pt_truth (pe_callG gX GS (hr.mono (by decide)) (by rfl) DS.g DS.k DS.b (pa_cons (pe_kwCall GH (hr.mono (by decide)) (by rfl) DH.g DH.k KH (passE0 rfl rfl) (pk_cons (pv 6) (pk_cons (pv 5) (pk_cons (pv 10) pk_nil)))) (pa_cons (pv 7) pa_nil))) (by intro _; rfl))))).pt (pss_one (ps_ret pe_bl)) pss_nil)
  (pss_cons (ps_if (pt_not (pt_truth (pe_callG gX GS (hr.mono (by decide)) (by rfl) DS.g DS.k DS.b (pa_cons (pe_call GH (hr.mono (by decide)) (by rfl) DH.g DH.k DH.b .nil (passE0 rfl rfl) (pa_cons (pv 10) (pa_cons (pe_call GA (hr.mono (by decide)) (by rfl) DA.g DA.k DA.b .nil (passE0 rfl rfl) (pa_cons (pv 10) (pa_cons (pv 5) pa_nil))) (pa_cons (pe_call GA (hr.mono (by decide)) (by rfl) DA.g DA.k DA.b .nil (passE0 rfl rfl) (pa_cons (pv 10) (pa_cons (pv 6) pa_nil))) pa_nil)))) (pa_cons (pv 7) pa_nil))) (by intro _; rfl))) (pss_one (ps_ret pe_bl)) pss_nil)
  (pss_one (ps_for PassesOwn.never rfl (pi_list (pe_call GW (hr.mono (by decide)) (by rfl) DW.g DW.k DW.b .nil pass0 (pa_cons (pv 10) (pa_cons pe_int pa_nil)))) (pg_name (i := 8) scLaw.nd rfl (Or.inl rfl)) (pss_one (ps_if (pw_and (pt_truth (pv 7) (by intro _; rfl)) (pw_and (pt_truth (pe_call GM (hr.mono (by decide)) (by rfl) DM.g DM.k DM.b .nil pass0 (pa_cons (pv 5) (pa_cons (pv 8) pa_nil))) (by intro _; rfl)) (pw_and1 (pt_not (pt_truth (pe_call GM (hr.mono (by decide)) (by rfl) DM.g DM.k DM.b .nil pass0 (pa_cons (pv 6) (pa_cons (pv 8) pa_nil))) (by intro _; rfl)))))).pt (pss_one (ps_ret pe_bl)) pss_nil))))))))
  (pss_cons (ps_if (pw_and (pt_cmpR op_is_bl (pe_call GH (hr.mono (by decide)) (by rfl) DH.g DH.k DH.b .nil (passE0 rfl rfl) (pa_cons (pv 10) (pa_cons (pv 11) (pa_cons (pv 3) pa_nil)))) pe_bl (nomark _)) (pw_and (pt_cmpR op_is_bl (pe_call GH (hr.mono (by decide)) (by rfl) DH.g DH.k DH.b .nil (passE0 rfl rfl) (pa_cons (pv 10) (pa_cons (pv 3) (pa_cons (pv 4) pa_nil)))) pe_bl (nomark _)) (pw_and1 (pt_cmpR op_isnot_bl (pe_call GH (hr.mono (by decide)) (by rfl) DH.g DH.k DH.b .nil (passE0 rfl rfl) (pa_cons (pv 10) (pa_cons (pv 11) (pa_cons (pv 4) pa_nil)))) pe_bl (nomark _))))).pt (pss_one (ps_ret pe_bl)) pss_nil)
  (pss_cons (ps_if (pw_or (pt_cmpR op_isnot_bl (pe_call GH (hr.mono (by decide)) (by rfl) DH.g DH.k DH.b .nil (passE0 rfl rfl) (pa_cons (pv 10) (pa_cons (pe_tup pa_nil) (pa_cons (pv 11) pa_nil)))) pe_bl (nomark _)) (pw_or1 (pt_cmpR op_isnot_bl (pe_call GH (hr.mono (by decide)) (by rfl) DH.g DH.k DH.b .nil (passE0 rfl rfl) (pa_cons (pv 10) (pa_cons (pv 11) (pa_cons (pe_tup (pa_cons (pe_tup (pa_cons pe_str (pa_cons (pv 10) pa_nil))) pa_nil)) pa_nil)))) pe_bl (nomark _)))).pt (pss_one (ps_ret pe_bl)) pss_nil)
  (pss_cons (ps_set (i := 9) scLaw.nd rfl (Or.inr rfl) (pe_call GP (hr.mono (by decide)) (by rfl) DP.g DP.k DP.b .nil pass0 (pa_cons (pv 1) (pa_cons (pe_lst (pa_cons pe_non (pa_cons (pe_lst (pa_cons (pe_tup (pa_cons pe_str (pa_cons (pv 10) pa_nil))) pa_nil)) (pa_cons (pe_tup (pa_cons (pe_tup (pa_cons pe_str (pa_cons pe_str pa_nil))) pa_nil)) (pa_cons (pe_tup (pa_cons (pe_tup (pa_cons pe_str (pa_cons pe_str pa_nil))) pa_nil)) (pa_cons pe_int (pa_cons (pe_op op_repT (pe_tup (pa_cons (pe_tup (pa_cons pe_str (pa_cons (pe_ix ix_str (pv 10) pe_int (fun _ _ => rfl)) pa_nil))) pa_nil)) pe_int) pa_nil))))))) pa_nil))))
  (pss_cons (ps_if (pt_not (pt_truth (pe_callB call_isKept (by rfl) B.isi (by decide +kernel) (pa_cons (pe_lamcall (k := 6) (T := [(Pt, qLam)]) (TT := TCaught K CS) (Ng := ["action", "found", "error"]) (t := fun E => tCall (spWithin2 K CN CI) [] E (tCons (tVar 10) (tCons (tVar 9) (tCons (tC .non) tNil)))) (by rfl) CK.g CK.k lkC cdC bC scCaught rfl (Or.inl rfl) (caught_gives rfl mgS (by decide) rfl rfl (by decide +kernel) (by decide) (by decide) (by decide) (by decide)) TB rfl List.mem_cons_self (fun p hp e => by cases List.mem_singleton.mp hp; rfl) hr (lamS_by (sc := defScope sLaw) (by decide +kernel)) rfl (fun _ _ _ _ _ => rfl) (fun A outer s H E f c' hr2 => pe_call GH (hr2.mono (by decide)) (by rfl) DH.g DH.k DH.b .nil (passes_call (takes_of rfl rfl rfl rfl) fun _ _ _ _ h => h) (pa_cons (pv 10) (pa_cons (pv 9) (pa_cons pe_non pa_nil))))) (pa_cons (pe_glob (v := .ref CI) (by rfl) mgI rfl) pa_nil))) (by intro _; rfl))) (pss_one (ps_ret pe_bl)) pss_nil)
  (pss_cons (ps_if (pt_not (pt_truth (pe_callB call_isKept (by rfl) B.isi (by decide +kernel) (pa_cons (pe_lamcall (k := 6) (T := [(Pt, qLam)]) (TT := TCaught K CS) (Ng := ["action", "found", "error"]) (t := fun E => tCall (spWithin2 K CN CI) [] E (tCons (tVar 10) (tCons (tVar 11) (tCons (tVar 9) tNil)))) (by rfl) CK.g CK.k lkC cdC bC scCaught rfl (Or.inl rfl) (caught_gives rfl mgS (by decide) rfl rfl (by decide +kernel) (by decide) (by decide) (by decide) (by decide)) TB rfl List.mem_cons_self (fun p hp e => by cases List.mem_singleton.mp hp; rfl) hr (lamS_by (sc := defScope sLaw) (by decide +kernel)) rfl (fun _ _ _ _ _ => rfl) (fun A outer s H E f c' hr2 => pe_call GH (hr2.mono (by decide)) (by rfl) DH.g DH.k DH.b .nil (passes_call (takes_of rfl rfl rfl rfl) fun _ _ _ _ h => h) (pa_cons (pv 10) (pa_cons (pv 11) (pa_cons (pv 9) pa_nil))))) (pa_cons (pe_glob (v := .ref CI) (by rfl) mgI rfl) pa_nil))) (by intro _; rfl))) (pss_one (ps_ret pe_bl)) pss_nil)
  (pss_one (ps_if (pt_not (pt_truth (pe_callB call_isKept (by rfl) B.isi (by decide +kernel) (pa_cons (pe_lamcall (k := 6) (T := [(Pt, qLam)]) (TT := TCaught K CS) (Ng := ["action", "found", "error"]) (t := fun E => tCall (spWithin2 K CN CI) [] E (tCons (tC (.str "zz")) (tCons (tVar 9) (tCons (tVar 9) tNil)))) (by rfl) CK.g CK.k lkC cdC bC scCaught rfl (Or.inl rfl) (caught_gives rfl mgS (by decide) rfl rfl (by decide +kernel) (by decide) (by decide) (by decide) (by decide)) TB rfl List.mem_cons_self (fun p hp e => by cases List.mem_singleton.mp hp; rfl) hr (lamS_by (sc := defScope sLaw) (by decide +kernel)) rfl (fun _ _ _ _ _ => rfl) (fun A outer s H E f c' hr2 => pe_call GH (hr2.mono (by decide)) (by rfl) DH.g DH.k DH.b .nil (passes_call (takes_of rfl rfl rfl rfl) fun _ _ _ _ h => h) (pa_cons pe_str (pa_cons (pv 9) (pa_cons (pv 9) pa_nil))))) (pa_cons (pe_glob (v := .ref CN) (by rfl) mgN rfl) pa_nil))) (by intro _; rfl))) (pss_one (ps_ret pe_bl)) pss_nil)))))))))))))
  (pss_one (ps_ret pe_bl))))
⟩
end
end SWL
set_option Elab.async false
set_option linter.all false
set_option maxRecDepth 100000
set_option maxHeartbeats 4000000
namespace SWL
open PySem PySem.Spec PyProof.Rows L2 LamX
/-- the draws and the table of the lambdas' code -/
structure LS (H : Hp) (a g c : Addr) (cs : List Int) (n : Nat) (Pt : Addr) : Prop where
  sat : SAt H a g c cs n
  tab : Tabs [(Pt, qLam)] H
theorem LS.grows {H H' : Hp} {a g c Pt : Addr} {cs : List Int} {n : Nat} (s : LS H a g c cs n Pt) (x : Grows H H') : LS H' a g c cs n Pt := ⟨s.sat.grows x, s.tab.ext x⟩
theorem LS.mono {H : Hp} {a g c Pt : Addr} {cs : List Int} {n m : Nat} (s : LS H a g c cs n Pt) (h : n ≤ m) : LS H a g c cs m Pt := ⟨s.sat.mono h, s.tab⟩
theorem LS.but {H H' : Hp} {a g c Pt : Addr} {cs : List Int} {n m : Nat} (s : LS H a g c cs n Pt) (x : But H H' a g) (s' : SAt H' a g c cs m) : LS H' a g c cs m Pt := by
  refine ⟨s', fun p hp => ?_⟩
  obtain ⟨gs, r, t, h1, h2, _⟩ := s.sat.ex
  obtain ⟨ps, e1, e2, e3⟩ := s.tab p hp
  refine ⟨ps, x _ _ e1 (ne_of e1 h1 (by intro z; cases z)) (ne_of e1 h2 (by intro z; cases z)), e2, fun pos cv hc => ?_⟩
  obtain ⟨d, f1, f2⟩ := e3 pos cv hc
  exact ⟨d, f1, x _ _ f2 (ne_of f2 h1 (by unfold CodeO; intro z; cases z)) (ne_of f2 h2 (by unfold CodeO; intro z; cases z))⟩
theorem LS.ext {H H' : Hp} {a g c Pt : Addr} {cs : List Int} {n : Nat} (s : LS H a g c cs n Pt) (x : ExtN H H') (t : Tabs [(Pt, qLam)] H') : LS H' a g c cs n Pt := by
  obtain ⟨gs, r, t', h1, h2, h3, h4⟩ := s.sat.ex
  exact ⟨⟨gs, r, t', x _ _ h1 (by intro ps z; cases z), x _ _ h2 (by intro ps z; cases z), x _ _ h3 (by intro ps z; cases z), h4⟩, t⟩
theorem tyx_ext {K : PySem.W.Frag} {H H' : Hp} (g : ExtN H H') {x : V} {t : Value} (h : TyX K H x t) : TyX K H' x t := by
  have no : ∀ {o : HO}, (∀ ps, o ≠ .tbl ps) → ∀ {b}, H b = some o → H' b = some o := fun n b e => g b _ e n
  cases h with
  | base b =>
    cases b with
    | non => exact .base .non
    | bl y => exact .base (.bl y)
    | int i => exact .base (.int i)
    | str z => exact .base (.str z)
    | flt z => exact .base (.flt z)
    | lst e => exact .base (.lst (no (by intro ps z; cases z) e))
    | frz e => exact .base (.frz (no (by intro ps z; cases z) e))
    | tup e => exact .base (.tup (no (by intro ps z; cases z) e))
    | dK e => exact .base (.dK (no (by intro ps z; cases z) e))
    | dT e => exact .base (.dT (no (by intro ps z; cases z) e))
    | ins e cl ha hn ht hm => exact .base (.ins (no (by intro ps z; cases z) e) cl ha hn ht hm)
  | byt b => exact .byt b
  | set e => exact .set (no (by intro ps z; cases z) e)
  | kList e c => exact .kList e c
  | kTuple e c => exact .kTuple e c
  | kDict e c => exact .kDict e c
  | fTuple e => exact .fTuple (no (by intro ps z; cases z) e)
  | fDict e => exact .fDict (no (by intro ps z; cases z) e)
theorem Grows.extN {H H' : Hp} (g : Grows H H') : ExtN H H' := fun b o h _ => g b o h
theorem ExtN.tr {H H1 H2 : Hp} (a : ExtN H H1) (b : ExtN H1 H2) : ExtN H H2 := fun c o h n => b c o (a c o h n) n
/-- isinstance(_law_caught(lambda: ..), C), where the lambda raises a C -/
theorem go_caught {K : PySem.W.Frag} {Pt C CS : Addr} {t : XK → TE} {σ : L2.St} {H : Hp} {Q : VK} (R : Hp → Prop) (exm : PySem.W.exmOne K (.ref C) (.ref CS) = some true) (EC : ExcC K C) (kit : PySem.W.kitOne K (.ref C) (.ref C) = some true) (tab : Tabs [(Pt, qLam)] H)
    (h : ∀ H1 E Q', ExtN H H1 → Tabs [(Pt, qLam)] H1 → (∀ H2, R H2 → E (.ref C) none H2) → t E σ H1 Q') (q : ∀ H2 a, R H2 → H2 a = none → Q (.bl true) (upd H2 a (.ext (Kept (.ref C) none a)))) :
    tCB (rIsKept K) (tCons (tLam [(Pt, qLam)] (TCaught K CS) t) (tCons (tC (.ref C)) tNil)) σ H Q := by
  refine ⟨tab, fun H1 e1 t1 => ?_⟩
  refine h H1 _ _ e1 t1 fun H2 r2 => ⟨exm, fun a na => ?_⟩
  exact ⟨a, C, .ref C, .ref C, true, rfl, upd_same, EC, fun u r => r, kit, q H2 a r2 na⟩
def spLaw (K : PySem.W.Frag) (Pt : Addr) : Sp := fun vs H Q _ => ∃ (a : Addr) (ns : List Int), vs = [.ref a] ∧ SqL K H a (ns.map V.int) ∧ ns.length ≤ 63 ∧ H Pt = some (.tbl #[]) ∧ ∀ H', Q (.bl true) H'
/-- an error class as isinstance and except see it -/
structure SeenC (K : PySem.W.Frag) (C CS : Addr) : Prop where
  exm : PySem.W.exmOne K (.ref C) (.ref CS) = some true
  ec : ExcC K C
  kit : PySem.W.kitOne K (.ref C) (.ref C) = some true
theorem NotStr.ext {K : PySem.W.Frag} {H H' : Hp} (g : ExtN H H') {x : V} (h : NotStr K H x) : NotStr K H' x := by
  obtain ⟨t, h1, h2⟩ := h
  exact ⟨t, tyx_ext g h1, h2⟩
theorem sqT_ext {K : PySem.W.Frag} {H H' : Hp} (g : ExtN H H') {b : Addr} {xs : List V} (h : SqT K H b xs) : SqT K H' b xs := by
  refine h.imp (fun r => ?_) id
  rcases r with h | ⟨o, h⟩
  · exact .inl (g _ _ h (by intro ps z; cases z))
  · exact .inr ⟨o, g _ _ h (by intro ps z; cases z)⟩
theorem IdAt.ext {K : PySem.W.Frag} {H H' : Hp} (g : ExtN H H') {b : Addr} {I : List LP} (h : IdAt K H b I) : IdAt K H' b I := ⟨sqT_ext g h.seq, fun q hq => sqT_ext g (h.parts q hq)⟩
theorem BadI.ext {K : PySem.W.Frag} {H H' : Hp} (g : ExtN H H') {ls : Str} {y : V} (h : BadI K H ls y) : BadI K H' ls y :=
  h.imp (fun ⟨t, h1, h2⟩ => ⟨t, tyx_ext g h1, h2⟩) fun ⟨a, I, h1, h2, h3⟩ => ⟨a, I, h1, h2.ext g, h3⟩
end SWL
set_option Elab.async false
set_option linter.all false
set_option maxRecDepth 100000
set_option maxHeartbeats 16000000
namespace SWL
open PySem PySem.Spec PyProof.Rows L2 LamX
theorem parts_ok {I : List LP} {ls : Str} (h : okIdeal ls I = true) : ∀ p ∈ partsOf I, PartOk p := fun p hp => by
  obtain ⟨q, hq, rfl⟩ := List.mem_map.mp hp
  exact partOk_of ((okIdeal_part h).2 q hq)
theorem lies_join {I J : List LP} {ls : Str} {n : Nat} (hI : okIdeal ls I = true) (hJ : okIdeal ls J = true) (hn : J.length + 1 ≤ n) : lies (partsOf I) (partsOf J) = inI J (joinT (partsOf I) n).cps.toList := by
  rw [in_parts, join_l]
  exact lies_word (parts_ok hI) (parts_ok hJ) (by unfold partsOf; rw [List.length_map]; exact hn)
theorem plain_ok {I : List LP} {ls : Str} (h : okIdeal ls I = true) : okIdeal ls (plainL I) = true := by
  obtain ⟨h1, h2⟩ := okIdeal_part h
  have := plainS_len I
  exact okI_mk (by unfold plainL; rw [List.length_reverse]; omega) fun q hq => h2 q (plainS_mem I (List.mem_reverse.mp hq))
theorem lies_plain {I J : List LP} {ls : Str} (hI : okIdeal ls I = true) (hJ : okIdeal ls J = true) : lies (partsOf (plainL I)) (partsOf (plainL J)) = lies (partsOf I) (partsOf J) := by
  rw [Bool.eq_iff_iff, lies_iff (parts_ok (plain_ok hI)) (parts_ok (plain_ok hJ)), lies_iff (parts_ok hI) (parts_ok hJ)]
  exact ⟨fun h w m => (same_plain J w).mp (h w ((same_plain I w).mpr m)), fun h w m => (same_plain J w).mpr (h w ((same_plain I w).mp m))⟩
/-- a word of the one ideal is of the other one -/
theorem lies_in {I J : List LP} {ls : Str} {w : Wl} (hI : okIdeal ls I = true) (hJ : okIdeal ls J = true) (h : lies (partsOf I) (partsOf J) = true) (hw : inI I w = true) : inI J w = true := by
  rw [in_parts, in_iff] at hw ⊢
  exact (lies_iff (parts_ok hI) (parts_ok hJ)).mp h w hw
theorem lies_on {I J L : List LP} {ls : Str} (hI : okIdeal ls I = true) (hJ : okIdeal ls J = true) (hL : okIdeal ls L = true) (h1 : lies (partsOf I) (partsOf J) = true) (h2 : lies (partsOf J) (partsOf L) = true) : lies (partsOf I) (partsOf L) = true := by
  rw [lies_iff (parts_ok hI) (parts_ok hJ)] at h1
  rw [lies_iff (parts_ok hJ) (parts_ok hL)] at h2
  rw [lies_iff (parts_ok hI) (parts_ok hL)]
  exact fun w m => h2 w (h1 w m)
/-- all is within the lot of all letters -/
theorem lies_lot {ls : Str} : ∀ (I : List Part), (∀ p ∈ I, okPart ls p = true) → lies I [⟨true, ls⟩] = true
  | [], _ => lies_nil _
  | p :: I, h => by
    have hp := h p List.mem_cons_self
    unfold okPart at hp
    simp only [Bool.and_eq_true] at hp
    rw [lies_cons, if_pos (show hasAll ⟨true, ls⟩ p = true from hp.1.2)]
    exact lies_lot I fun q hq => h q (List.mem_cons_of_mem p hq)
theorem subT_self (a : Str) : subT a a = true := by
  unfold subT
  rw [List.all_eq_true]
  exact fun c hc => decide_eq_true hc
/-- a condition that is false on all ways -/
theorem go_no {t : TT} {b e : TS} {D : Ends} {σ : L2.St} {H : Hp} (R : Hp → Prop) (h : ∀ k : Bool → Hp → Prop, (∀ H', R H' → k false H') → t σ H k) (q : ∀ H', R H' → e D σ H') : tIfS t b e D σ H := h _ fun H' r => if_neg_of (by decide) (q H' r)
/-- two ideals, and a pair of them -/
def PairAt (K : PySem.W.Frag) (H : Hp) (ls : Str) (x : V) : Prop := ∃ (t a b : Addr) (I J : List LP), x = .ref t ∧ SqT K H t [.ref a, .ref b] ∧ IdAt K H a I ∧ IdAt K H b J ∧ okIdeal ls I = true ∧ okIdeal ls J = true ∧ I.length ≤ 7 ∧ J.length ≤ 7
section
variable {P : Program} {w : World} {K : PySem.W.Frag} {mg : Str → Option Value} {base : Heap}
theorem ok_law {CN CI CS fC f c Pt : Addr} {oc0 kV0 doc0 pm0 ct0 : Value} {an0 od0 : Option Addr} {osl0 : Array (Option Value)} (lk : K.lookup f = some ⟨oc0, od0, .func (PySem.W.fnOf "law" "law" (defArgs sLaw) (defBody sLaw) (defScope sLaw) .none kV0 doc0 pm0 an0 (.ref c) ct0), osl0⟩)
    (hcd : PySem.W.codeIn K (.ref c) "law" = true) (B : Blt mg) (C : Callees P w K mg base CN CI CS) (CK : CaughtK K mg fC) (TB : TabB base mg c Pt)
    (mgN : mg "NoLetters" = some (.ref CN)) (mgI : mg "NoIdeal" = some (.ref CI)) (mgS : mg "SwingError" = some (.ref CS)) (SN : SeenC K CN CS) (SI : SeenC K CI CS) :
    FnG P w K mg base 9 f (PySem.W.fnOf "law" "law" (defArgs sLaw) (defBody sLaw) (defScope sLaw) .none kV0 doc0 pm0 an0 (.ref c) ct0) ["script"] (spLaw K Pt) := by
  refine ⟨fun vs H Q E h => (by obtain ⟨a, ns, rfl, _⟩ := h; rfl), fun A outer s H args us vs Q E gA hr0 e0 hb r h => run_ofS (k := 8) lk hcd scLaw hr0 e0 hb r (by obtain ⟨a, ns, rfl, _⟩ := h; rfl) fun hr => ?_⟩
  obtain ⟨fB, fdB, DB, GB⟩ := C.begun
  obtain ⟨fL, fdL, DL, GL⟩ := C.moL
  obtain ⟨fP, fdP, DP, GP⟩ := C.pick
  obtain ⟨fI, fdI, DI, GI⟩ := C.moIdeal
  obtain ⟨fW, fdW, DW, GW⟩ := C.moWords
  obtain ⟨fM, fdM, DM, GM⟩ := C.moIn
  obtain ⟨fX, fdX, DX, GX⟩ := C.moWithin
  obtain ⟨fY, fdC, DC, GC⟩ := C.changed
  obtain ⟨fS, fdS, DS, GS⟩ := C.is
  obtain ⟨fH, fdH, DH, KH, GH⟩ := C.within
  obtain ⟨fA, fdA, DA, GA⟩ := C.plainId
  obtain ⟨oc, kV, doc, pm, cdv, ct, an, od, osl, lkC, cdC, bC⟩ := CK.ex
  have u64 : (A.deeper (envOfC "law" (defScope sLaw) s.heap.objs.size f (.ref c))).units + 64 < cLine := by have := hr.un; omega
  have gX : (A.deeper (envOfC "law" (defScope sLaw) s.heap.objs.size f (.ref c))).guards = some [] := gA
  refine ⟨_, PSs.nox (pss_cons (ps_set (i := 1) scLaw.nd rfl (Or.inl rfl) (pe_call GB (hr.mono (by decide)) (by rfl) DB.g DB.k DB.b .nil pass0 (pa_cons (pv 0) pa_nil)))
  (pss_cons (ps_for PassesOwn.never rfl (pi_range1 (by rfl) B.range (pa_cons (pe_op op_add pe_int (pe_callB (call_min2 rfl) (by rfl) B.min (by decide +kernel) (pa_cons (pe_callB call_len_seq (by rfl) B.len PySem.boot_len (pa_cons (pv 0) pa_nil)) (pa_cons pe_int pa_nil)))) pa_nil)) (pg_name (i := 2) scLaw.nd rfl (Or.inl rfl)) (pss_cons (ps_set (i := 10) scLaw.nd rfl (Or.inr rfl) (pe_call GL (hr.mono (by decide)) (by rfl) DL.g DL.k DL.b .nil pass0 (pa_cons (pv 1) pa_nil)))
  (pss_cons (ps_set (i := 11) scLaw.nd rfl (Or.inr rfl) (pe_call GI (hr.mono (by decide)) (by rfl) DI.g DI.k DI.b .nil pass0 (pa_cons (pv 1) (pa_cons (pv 10) pa_nil))))
  (pss_cons (ps_set (i := 3) scLaw.nd rfl (Or.inl rfl) (pe_call GP (hr.mono (by decide)) (by rfl) DP.g DP.k DP.b .nil pass0 (pa_cons (pv 1) (pa_cons (pe_lst (pa_cons (pe_call GI (hr.mono (by decide)) (by rfl) DI.g DI.k DI.b .nil pass0 (pa_cons (pv 1) (pa_cons (pv 10) pa_nil))) (pa_cons (pe_call GC (hr.mono (by decide)) (by rfl) DC.g DC.k DC.b .nil pass0 (pa_cons (pv 1) (pa_cons (pv 10) (pa_cons (pv 11) pa_nil)))) (pa_cons (pv 11) pa_nil)))) pa_nil))))
  (pss_cons (ps_set (i := 4) scLaw.nd rfl (Or.inl rfl) (pe_call GC (hr.mono (by decide)) (by rfl) DC.g DC.k DC.b .nil pass0 (pa_cons (pv 1) (pa_cons (pv 10) (pa_cons (pv 3) pa_nil)))))
  (pss_cons (ps_for PassesOwn.never rfl (pi_list (pe_lst (pa_cons (pe_tup (pa_cons (pv 11) (pa_cons (pv 3) pa_nil))) (pa_cons (pe_tup (pa_cons (pv 3) (pa_cons (pv 11) pa_nil))) (pa_cons (pe_tup (pa_cons (pv 3) (pa_cons (pv 4) pa_nil))) (pa_cons (pe_tup (pa_cons (pv 11) (pa_cons (pv 4) pa_nil))) (pa_cons (pe_tup (pa_cons (pv 11) (pa_cons (pv 11) pa_nil))) pa_nil))))))) (pg_tup rfl (pgs_cons (pg_name (i := 5) scLaw.nd rfl (Or.inl rfl)) (pgs_cons (pg_name (i := 6) scLaw.nd rfl (Or.inl rfl)) pgs_nil))) (pss_cons (ps_set (i := 7) scLaw.nd rfl (Or.inl rfl) (pe_call GX (hr.mono (by decide)) (by rfl) DX.g DX.k DX.b .nil pass0 (pa_cons (pv 5) (pa_cons (pv 6) pa_nil))))
  (pss_cons (ps_if (pw_or (pt_not (pt_truth (pe_callG gX GS (hr.mono (by decide)) (by rfl) DS.g DS.k DS.b (pa_cons (pe_call GH (hr.mono (by decide)) (by rfl) DH.g DH.k DH.b .nil (passE0 rfl rfl) (pa_cons (pv 10) (pa_cons (pv 5) (pa_cons (pv 6) pa_nil)))) (pa_cons (pv 7) pa_nil))) (by intro _; rfl))) (pw_or1 (pt_not (pt_truth (pe_callG gX GS (hr.mono (by decide)) (by rfl) DS.g DS.k DS.b (pa_cons (pe_kwCall GH (hr.mono (by decide)) (by rfl) DH.g DH.k KH (passE0 rfl rfl) (pk_cons (pv 6) (pk_cons (pv 5) (pk_cons (pv 10) pk_nil)))) (pa_cons (pv 7) pa_nil))) (by intro _; rfl))))).pt (pss_one (ps_ret pe_bl)) pss_nil)
  (pss_cons (ps_if (pt_not (pt_truth (pe_callG gX GS (hr.mono (by decide)) (by rfl) DS.g DS.k DS.b (pa_cons (pe_call GH (hr.mono (by decide)) (by rfl) DH.g DH.k DH.b .nil (passE0 rfl rfl) (pa_cons (pv 10) (pa_cons (pe_call GA (hr.mono (by decide)) (by rfl) DA.g DA.k DA.b .nil (passE0 rfl rfl) (pa_cons (pv 10) (pa_cons (pv 5) pa_nil))) (pa_cons (pe_call GA (hr.mono (by decide)) (by rfl) DA.g DA.k DA.b .nil (passE0 rfl rfl) (pa_cons (pv 10) (pa_cons (pv 6) pa_nil))) pa_nil)))) (pa_cons (pv 7) pa_nil))) (by intro _; rfl))) (pss_one (ps_ret pe_bl)) pss_nil)
  (pss_one (ps_for PassesOwn.never rfl (pi_list (pe_call GW (hr.mono (by decide)) (by rfl) DW.g DW.k DW.b .nil pass0 (pa_cons (pv 10) (pa_cons pe_int pa_nil)))) (pg_name (i := 8) scLaw.nd rfl (Or.inl rfl)) (pss_one (ps_if (pw_and (pt_truth (pv 7) (by intro _; rfl)) (pw_and (pt_truth (pe_call GM (hr.mono (by decide)) (by rfl) DM.g DM.k DM.b .nil pass0 (pa_cons (pv 5) (pa_cons (pv 8) pa_nil))) (by intro _; rfl)) (pw_and1 (pt_not (pt_truth (pe_call GM (hr.mono (by decide)) (by rfl) DM.g DM.k DM.b .nil pass0 (pa_cons (pv 6) (pa_cons (pv 8) pa_nil))) (by intro _; rfl)))))).pt (pss_one (ps_ret pe_bl)) pss_nil))))))))
  (pss_cons (ps_if (pw_and (pt_cmpR op_is_bl (pe_call GH (hr.mono (by decide)) (by rfl) DH.g DH.k DH.b .nil (passE0 rfl rfl) (pa_cons (pv 10) (pa_cons (pv 11) (pa_cons (pv 3) pa_nil)))) pe_bl (nomark _)) (pw_and (pt_cmpR op_is_bl (pe_call GH (hr.mono (by decide)) (by rfl) DH.g DH.k DH.b .nil (passE0 rfl rfl) (pa_cons (pv 10) (pa_cons (pv 3) (pa_cons (pv 4) pa_nil)))) pe_bl (nomark _)) (pw_and1 (pt_cmpR op_isnot_bl (pe_call GH (hr.mono (by decide)) (by rfl) DH.g DH.k DH.b .nil (passE0 rfl rfl) (pa_cons (pv 10) (pa_cons (pv 11) (pa_cons (pv 4) pa_nil)))) pe_bl (nomark _))))).pt (pss_one (ps_ret pe_bl)) pss_nil)
  (pss_cons (ps_if (pw_or (pt_cmpR op_isnot_bl (pe_call GH (hr.mono (by decide)) (by rfl) DH.g DH.k DH.b .nil (passE0 rfl rfl) (pa_cons (pv 10) (pa_cons (pe_tup pa_nil) (pa_cons (pv 11) pa_nil)))) pe_bl (nomark _)) (pw_or1 (pt_cmpR op_isnot_bl (pe_call GH (hr.mono (by decide)) (by rfl) DH.g DH.k DH.b .nil (passE0 rfl rfl) (pa_cons (pv 10) (pa_cons (pv 11) (pa_cons (pe_tup (pa_cons (pe_tup (pa_cons pe_str (pa_cons (pv 10) pa_nil))) pa_nil)) pa_nil)))) pe_bl (nomark _)))).pt (pss_one (ps_ret pe_bl)) pss_nil)
  (pss_cons (ps_set (i := 9) scLaw.nd rfl (Or.inr rfl) (pe_call GP (hr.mono (by decide)) (by rfl) DP.g DP.k DP.b .nil pass0 (pa_cons (pv 1) (pa_cons (pe_lst (pa_cons pe_non (pa_cons (pe_lst (pa_cons (pe_tup (pa_cons pe_str (pa_cons (pv 10) pa_nil))) pa_nil)) (pa_cons (pe_tup (pa_cons (pe_tup (pa_cons pe_str (pa_cons pe_str pa_nil))) pa_nil)) (pa_cons (pe_tup (pa_cons (pe_tup (pa_cons pe_str (pa_cons pe_str pa_nil))) pa_nil)) (pa_cons pe_int (pa_cons (pe_op op_repT (pe_tup (pa_cons (pe_tup (pa_cons pe_str (pa_cons (pe_ix ix_str (pv 10) pe_int (fun _ _ => rfl)) pa_nil))) pa_nil)) pe_int) pa_nil))))))) pa_nil))))
  (pss_cons (ps_if (pt_not (pt_truth (pe_callB call_isKept (by rfl) B.isi (by decide +kernel) (pa_cons (pe_lamcall (k := 6) (T := [(Pt, qLam)]) (TT := TCaught K CS) (Ng := ["action", "found", "error"]) (t := fun E => tCall (spWithin2 K CN CI) [] E (tCons (tVar 10) (tCons (tVar 9) (tCons (tC .non) tNil)))) (by rfl) CK.g CK.k lkC cdC bC scCaught rfl (Or.inl rfl) (caught_gives rfl mgS (by decide) rfl rfl (by decide +kernel) (by decide) (by decide) (by decide) (by decide)) TB rfl List.mem_cons_self (fun p hp e => by cases List.mem_singleton.mp hp; rfl) hr (lamS_by (sc := defScope sLaw) (by decide +kernel)) rfl (fun _ _ _ _ _ => rfl) (fun A outer s H E f c' hr2 => pe_call GH (hr2.mono (by decide)) (by rfl) DH.g DH.k DH.b .nil (passes_call (takes_of rfl rfl rfl rfl) fun _ _ _ _ h => h) (pa_cons (pv 10) (pa_cons (pv 9) (pa_cons pe_non pa_nil))))) (pa_cons (pe_glob (v := .ref CI) (by rfl) mgI rfl) pa_nil))) (by intro _; rfl))) (pss_one (ps_ret pe_bl)) pss_nil)
  (pss_cons (ps_if (pt_not (pt_truth (pe_callB call_isKept (by rfl) B.isi (by decide +kernel) (pa_cons (pe_lamcall (k := 6) (T := [(Pt, qLam)]) (TT := TCaught K CS) (Ng := ["action", "found", "error"]) (t := fun E => tCall (spWithin2 K CN CI) [] E (tCons (tVar 10) (tCons (tVar 11) (tCons (tVar 9) tNil)))) (by rfl) CK.g CK.k lkC cdC bC scCaught rfl (Or.inl rfl) (caught_gives rfl mgS (by decide) rfl rfl (by decide +kernel) (by decide) (by decide) (by decide) (by decide)) TB rfl List.mem_cons_self (fun p hp e => by cases List.mem_singleton.mp hp; rfl) hr (lamS_by (sc := defScope sLaw) (by decide +kernel)) rfl (fun _ _ _ _ _ => rfl) (fun A outer s H E f c' hr2 => pe_call GH (hr2.mono (by decide)) (by rfl) DH.g DH.k DH.b .nil (passes_call (takes_of rfl rfl rfl rfl) fun _ _ _ _ h => h) (pa_cons (pv 10) (pa_cons (pv 11) (pa_cons (pv 9) pa_nil))))) (pa_cons (pe_glob (v := .ref CI) (by rfl) mgI rfl) pa_nil))) (by intro _; rfl))) (pss_one (ps_ret pe_bl)) pss_nil)
  (pss_one (ps_if (pt_not (pt_truth (pe_callB call_isKept (by rfl) B.isi (by decide +kernel) (pa_cons (pe_lamcall (k := 6) (T := [(Pt, qLam)]) (TT := TCaught K CS) (Ng := ["action", "found", "error"]) (t := fun E => tCall (spWithin2 K CN CI) [] E (tCons (tC (.str "zz")) (tCons (tVar 9) (tCons (tVar 9) tNil)))) (by rfl) CK.g CK.k lkC cdC bC scCaught rfl (Or.inl rfl) (caught_gives rfl mgS (by decide) rfl rfl (by decide +kernel) (by decide) (by decide) (by decide) (by decide)) TB rfl List.mem_cons_self (fun p hp e => by cases List.mem_singleton.mp hp; rfl) hr (lamS_by (sc := defScope sLaw) (by decide +kernel)) rfl (fun _ _ _ _ _ => rfl) (fun A outer s H E f c' hr2 => pe_call GH (hr2.mono (by decide)) (by rfl) DH.g DH.k DH.b .nil (passes_call (takes_of rfl rfl rfl rfl) fun _ _ _ _ h => h) (pa_cons pe_str (pa_cons (pv 9) (pa_cons (pv 9) pa_nil))))) (pa_cons (pe_glob (v := .ref CN) (by rfl) mgN rfl) pa_nil))) (by intro _; rfl))) (pss_one (ps_ret pe_bl)) pss_nil)))))))))))))
  (pss_one (ps_ret pe_bl))))
, ?_⟩
  have sz : sizeLine = 16777216 := sizeLine_eq
  obtain ⟨a0, ns, rfl, hS, hn, hP, q⟩ := h
  refine ⟨_, rfl, a0, ns, rfl, hS, by omega, fun H1 a g cA cs g1 s1 na ng => ?_⟩
  have L1 : LS H1 a g cA cs 0 Pt := ⟨s1, fun p hp => by cases List.mem_singleton.mp hp; exact TabS.nil (g1 _ _ hP)⟩
  refine ⟨_, rfl, a0, ns.map V.int, rfl, .inl (g1.l hS), _, _, rfl, _, _, rfl, rfl, _, rfl, by split <;> omega, by split <;> omega, ?_⟩
  refine for_it walk_range (fun i σ H' => (∃ v2 v3 v4 v5 v6 v7 v8 v9 v10 v11 : Option V, σ = [some (.ref a0), some (.ref a), v2, v3, v4, v5, v6, v7, v8, v9, v10, v11]) ∧ LS H' a g cA cs (1000 * i) Pt)
    ⟨⟨none, none, none, none, none, none, none, none, none, none, rfl⟩, L1⟩ (fun _ _ _ _ _ => trivial) ?_ ?_
  · rintro i x σ H2 H3 hi ⟨⟨v2, v3, v4, v5, v6, v7, v8, v9, v10, v11, rfl⟩, L⟩ ⟨rfl, rfl⟩
    have hi10 : i < 10 := by
      have : (4 + if (6 : Int) < ((ns.map V.int).length : Int) then 6 else ((ns.map V.int).length : Int)).toNat ≤ 10 := by split <;> omega
      omega
    refine ⟨_, rfl, a, g, cA, cs, 1000 * i, rfl, L.sat, by omega, fun H4 ls hls s4 b4 => ?_⟩
    have lo := lot_of hls
    have L4 := L.but b4 s4
    have hlsz : ls.length ≤ sizeLine := by have := lo.len; omega
    -- one
    refine ⟨_, rfl, _, rfl, a, g, cA, cs, 1000 * i + 1, ls, rfl, lo, L4.sat, by omega, fun H5 x1 I hI hokI hl5 s5 b5 => ?_⟩
    have L5 := L4.but b5 s5
    -- other
    refine ⟨_, rfl, _, rfl, _, rfl, a, g, cA, cs, 1000 * i + 101, ls, rfl, lo, L5.sat, by omega, fun H6 y1 J1 hJ1 hok1 hl6 s6 b6 => ?_⟩
    have L6 := L5.but b6 s6
    have hI6 := hI.but L5.sat.off b6
    refine ⟨_, rfl, _, rfl, _, rfl, a, g, cA, cs, 1000 * i + 201, ls, x1, I, rfl, lo, L6.sat, by omega, hI6, hokI, by omega, fun H7 y2 J2 hJ2 hok2 hl7 s7 b7 => ?_⟩
    have L7 := L6.but b7 s7
    have hI7 := hI6.but L6.sat.off b7
    have hJ17 := hJ1.but L6.sat.off b7
    refine ⟨_, rfl, by show 3 ≤ sizeLine; decide, fun p np => ?_⟩
    have gp : Grows H7 (upd H7 p (.lst [.ref y1, .ref y2, .ref x1])) := Grows.new np
    have kp : upd H7 p (.lst [.ref y1, .ref y2, .ref x1]) p = some (.lst [.ref y1, .ref y2, .ref x1]) := upd_same
    have pg : p ≠ g := by
      obtain ⟨xs, hx⟩ := L7.sat.off.gr
      exact (ne_of_none hx np).symm
    generalize upd H7 p (.lst [.ref y1, .ref y2, .ref x1]) = H7b at gp kp ⊢
    have L7b := L7.grows gp
    refine ⟨a, g, cA, p, cs, 1000 * i + 221, _, rfl, L7b.sat, by omega, kp, pg, by simp, by show 3 ≤ 1000000; decide, fun H8 x hx s8 b8 => ?_⟩
    have L8 := L7b.but b8 s8
    have hI8 := (hI7.grows gp).but L7b.sat.off b8
    obtain ⟨x2, J, rfl, hJ8, hokJ, hlJ⟩ : ∃ x2 J, x = .ref x2 ∧ IdAt K H8 x2 J ∧ okIdeal ls J = true ∧ J.length ≤ 6 := by
      simp only [List.mem_cons, List.not_mem_nil, or_false] at hx
      rcases hx with rfl | rfl | rfl
      · exact ⟨y1, J1, rfl, (hJ17.grows gp).but L7b.sat.off b8, hok1, by omega⟩
      · exact ⟨y2, J2, rfl, (hJ2.grows gp).but L7b.sat.off b8, hok2, by omega⟩
      · exact ⟨x1, I, rfl, hI8, hokI, by omega⟩
    -- third
    refine ⟨_, rfl, _, rfl, _, rfl, a, g, cA, cs, 1000 * i + 222, ls, x2, J, rfl, lo, L8.sat, by omega, hJ8, hokJ, by omega, fun H9 x3 T hT hokT hlT s9 b9 => ?_⟩
    have L9 := L8.but b9 s9
    have hI9 := hI8.but L8.sat.off b9
    have hJ9 := hJ8.but L8.sat.off b9
    clear hJ8 hI8 hI7 hJ17 hI6 hI hJ1 hJ2 L8 L7b L7 L6 L5 L4 s4 s5 s6 s7 s8 s9 b4 b5 b6 b7 b8 b9 gp kp pg
    obtain ⟨_, hpI⟩ := okIdeal_part hokI
    obtain ⟨_, hpJ⟩ := okIdeal_part hokJ
    obtain ⟨_, hpT⟩ := okIdeal_part hokT
    -- the pairs
    refine ⟨_, rfl, _, rfl, by show 2 ≤ sizeLine; decide, fun t1 n1 => ?_⟩
    have e1 : Grows H9 (upd H9 t1 (.tup [.ref x1, .ref x2])) := Grows.new n1
    have k1 : upd H9 t1 (.tup [.ref x1, .ref x2]) t1 = some (.tup [.ref x1, .ref x2]) := upd_same
    generalize upd H9 t1 (.tup [.ref x1, .ref x2]) = G1 at e1 k1 ⊢
    refine ⟨_, rfl, _, rfl, by show 2 ≤ sizeLine; decide, fun t2 n2 => ?_⟩
    have e2 : Grows G1 (upd G1 t2 (.tup [.ref x2, .ref x1])) := Grows.new n2
    have k2 : upd G1 t2 (.tup [.ref x2, .ref x1]) t2 = some (.tup [.ref x2, .ref x1]) := upd_same
    generalize upd G1 t2 (.tup [.ref x2, .ref x1]) = G2 at e2 k2 ⊢
    refine ⟨_, rfl, _, rfl, by show 2 ≤ sizeLine; decide, fun t3 n3 => ?_⟩
    have e3 : Grows G2 (upd G2 t3 (.tup [.ref x2, .ref x3])) := Grows.new n3
    have k3 : upd G2 t3 (.tup [.ref x2, .ref x3]) t3 = some (.tup [.ref x2, .ref x3]) := upd_same
    generalize upd G2 t3 (.tup [.ref x2, .ref x3]) = G3 at e3 k3 ⊢
    refine ⟨_, rfl, _, rfl, by show 2 ≤ sizeLine; decide, fun t4 n4 => ?_⟩
    have e4 : Grows G3 (upd G3 t4 (.tup [.ref x1, .ref x3])) := Grows.new n4
    have k4 : upd G3 t4 (.tup [.ref x1, .ref x3]) t4 = some (.tup [.ref x1, .ref x3]) := upd_same
    generalize upd G3 t4 (.tup [.ref x1, .ref x3]) = G4 at e4 k4 ⊢
    refine ⟨_, rfl, _, rfl, by show 2 ≤ sizeLine; decide, fun t5 n5 => ?_⟩
    have e5 : Grows G4 (upd G4 t5 (.tup [.ref x1, .ref x1])) := Grows.new n5
    have k5 : upd G4 t5 (.tup [.ref x1, .ref x1]) t5 = some (.tup [.ref x1, .ref x1]) := upd_same
    generalize upd G4 t5 (.tup [.ref x1, .ref x1]) = G5 at e5 k5 ⊢
    refine ⟨by show 5 ≤ sizeLine; decide, fun pp npp => ?_⟩
    have e6 : Grows G5 (upd G5 pp (.lst [.ref t1, .ref t2, .ref t3, .ref t4, .ref t5])) := Grows.new npp
    have k6 : upd G5 pp (.lst [.ref t1, .ref t2, .ref t3, .ref t4, .ref t5]) pp = some (.lst [.ref t1, .ref t2, .ref t3, .ref t4, .ref t5]) := upd_same
    generalize upd G5 pp (.lst [.ref t1, .ref t2, .ref t3, .ref t4, .ref t5]) = G6 at e6 k6 ⊢
    have e56 := e5.trans e6
    have e46 := e4.trans e56
    have e36 := e3.trans e46
    have e26 := e2.trans e36
    have e16 := e1.trans e26
    have L10 := (L9.grows e16).mono (show 1000 * i + 222 + 20 ≤ 1000 * i + 300 by omega)
    have hI10 := hI9.grows e16
    have hJ10 := hJ9.grows e16
    have hT10 := hT.grows e16
    have pairs : ∀ x ∈ [V.ref t1, .ref t2, .ref t3, .ref t4, .ref t5], PairAt K G6 ls x := by
      intro x hx
      simp only [List.mem_cons, List.not_mem_nil, or_false] at hx
      rcases hx with rfl | rfl | rfl | rfl | rfl
      · exact ⟨t1, x1, x2, I, J, rfl, .inl (.inl (e26 _ _ k1)), hI10, hJ10, hokI, hokJ, by omega, by omega⟩
      · exact ⟨t2, x2, x1, J, I, rfl, .inl (.inl (e36 _ _ k2)), hJ10, hI10, hokJ, hokI, by omega, by omega⟩
      · exact ⟨t3, x2, x3, J, T, rfl, .inl (.inl (e46 _ _ k3)), hJ10, hT10, hokJ, hokT, by omega, by omega⟩
      · exact ⟨t4, x1, x3, I, T, rfl, .inl (.inl (e56 _ _ k4)), hI10, hT10, hokI, hokT, by omega, by omega⟩
      · exact ⟨t5, x1, x1, I, I, rfl, .inl (.inl (e6 _ _ k5)), hI10, hI10, hokI, hokI, by omega, by omega⟩
    clear hI9 hJ9 hT L9 e1 e2 e3 e4 e5 e6 e16 e26 e36 e46 e56 k1 k2 k3 k4 k5
    refine ⟨pp, rfl, ⟨_, .inl (.inl k6)⟩, for_list (K := K) (a := pp) (xs := [.ref t1, .ref t2, .ref t3, .ref t4, .ref t5]) (fun j σ H' => (∃ v5 v6 v7 v8 : Option V, σ = [some (.ref a0), some (.ref a), some (.int (0 + (i : Int))), some (.ref x2), some (.ref x3), v5, v6, v7, v8, v9, some (.str ls), some (.ref x1)]) ∧ Grows G6 H') ⟨⟨v5, v6, v7, v8, rfl⟩, Grows.refl _⟩ (fun j σ H' _ h => .inl (.inl (h.2 _ _ k6))) ?_ ?_⟩
    · rintro j x σ H11 hj ⟨⟨v5, v6, v7, v8, rfl⟩, g11⟩
      obtain ⟨t, u, v, Ui, Vj, rfl, ht, hU, hV, okU, okV, lU, lV⟩ := pairs x (List.mem_of_getElem? hj)
      obtain ⟨_, hpU⟩ := okIdeal_part okU
      have hU11 := hU.grows g11
      have hV11 := hV.grows g11
      refine ⟨t, _, rfl, g11.t ht, rfl, _, _, rfl, _, _, rfl, rfl, ?_⟩
      -- due
      refine ⟨_, rfl, _, rfl, u, v, Ui, Vj, rfl, hU11, hV11, by omega, fun q hq => (text_len (hpU q hq)).1, by omega, fun H12 g12 => ?_⟩
      rw [← lies_join okU okV (Nat.le_refl _)]
      obtain ⟨d, hd⟩ : ∃ d, d = lies (partsOf Ui) (partsOf Vj) := ⟨_, rfl⟩
      rw [← hd]
      have hU12 := hU11.grows g12
      have hV12 := hV11.grows g12
      -- is_within, twice
      refine ⟨_, rfl, _, rfl, _, rfl, .str ls, .ref u, .ref v, rfl, .inr ⟨ls, rfl, hlsz, lo.ok, .inr ⟨u, Ui, rfl, hU12, okU, .inr ⟨v, Vj, rfl, hV12, okV, fun H13 g13 => ?_⟩⟩⟩⟩
      rw [← hd]
      refine ⟨_, rfl, .bl d, .bl d, .bool d, rfl, .bl _, .bl _, good_bool _, Nat.zero_lt_one, fun H14 g14 => ⟨true, rfl, if_neg_of (by decide) ?_⟩⟩
      have g124 := g13.trans g14
      refine ⟨_, rfl, _, rfl, _, rfl, .str ls, .ref u, .ref v, rfl, .inr ⟨ls, rfl, hlsz, lo.ok, .inr ⟨u, Ui, rfl, hU12.grows g124, okU, .inr ⟨v, Vj, rfl, hV12.grows g124, okV, fun H15 g15 => ?_⟩⟩⟩⟩
      rw [← hd]
      refine ⟨_, rfl, .bl d, .bl d, .bool d, rfl, .bl _, .bl _, good_bool _, Nat.zero_lt_one, fun H16 g16 => ⟨true, rfl, if_neg_of (by decide) ?_⟩⟩
      have g126 := (g124.trans g15).trans g16
      -- plain ones
      refine ⟨_, rfl, _, rfl, _, rfl, .str ls, .ref u, rfl, .inr ⟨ls, rfl, hlsz, lo.ok, .inr ⟨u, Ui, rfl, hU12.grows g126, okU, fun H17 g17 H18 c1 g18 hc1 => ?_⟩⟩⟩
      have g128 := (g126.trans g17).trans g18
      refine ⟨_, rfl, _, rfl, .str ls, .ref v, rfl, .inr ⟨ls, rfl, hlsz, lo.ok, .inr ⟨v, Vj, rfl, hV12.grows g128, okV, fun H19 g19 H20 c2 g20 hc2 => ?_⟩⟩⟩
      have g1820 := g19.trans g20
      refine ⟨.str ls, .ref c1, .ref c2, rfl, .inr ⟨ls, rfl, hlsz, lo.ok, .inr ⟨c1, plainL Ui, rfl, hc1.grows g1820, plain_ok okU, .inr ⟨c2, plainL Vj, rfl, hc2, plain_ok okV, fun H21 g21 => ?_⟩⟩⟩⟩
      rw [lies_plain okU okV, ← hd]
      refine ⟨_, rfl, .bl d, .bl d, .bool d, rfl, .bl _, .bl _, good_bool _, Nat.zero_lt_one, fun H22 g22 => ⟨true, rfl, if_neg_of (by decide) ?_⟩⟩
      have g1222 := ((g128.trans g1820).trans g21).trans g22
      have hU22 := hU12.grows g1222
      have hV22 := hV12.grows g1222
      have gg22 := (g11.trans g12).trans g1222
      -- words
      refine ⟨_, rfl, ls, 3, rfl, lo.len, by decide, fun H23 D ws g23 hD hwl hws => ?_⟩
      refine ⟨D, rfl, ⟨_, .inl (.inl hD)⟩, for_list (K := K) (a := D) (xs := ws.map V.str) (fun j σ H' => (∃ v8 : Option V, σ = [some (.ref a0), some (.ref a), some (.int (0 + (i : Int))), some (.ref x2), some (.ref x3), some (.ref u), some (.ref v), some (.bl d), v8, v9, some (.str ls), some (.ref x1)]) ∧ Grows H23 H') ⟨⟨v8, rfl⟩, Grows.refl _⟩ (fun j σ H' _ h => .inl (.inl (h.2 _ _ hD))) ?_ ?_⟩
      · rintro k x σ H24 hk ⟨⟨v8, rfl⟩, g24⟩
        rw [List.getElem?_map] at hk
        obtain ⟨z, hz, rfl⟩ : ∃ z, ws[k]? = some z ∧ x = .str z := by
          cases e : ws[k]? with
          | none => rw [e] at hk; cases hk
          | some z => rw [e] at hk; exact ⟨z, rfl, (Option.some.inj hk).symm⟩
        refine ⟨_, rfl, _, rfl, ?_⟩
        cases d with
        | false => exact if_neg_of (by decide) (if_neg_of (by decide) ⟨⟨_, rfl⟩, g24⟩)
        | true =>
          refine if_pos_of rfl ⟨_, rfl, _, rfl, u, Ui, z, rfl, hU22.grows (g23.trans g24), by omega, fun H25 g25 => ⟨_, rfl, ?_⟩⟩
          cases eU : inI Ui z.cps.toList with
          | false => exact if_neg_of (by decide) (if_neg_of (by decide) ⟨⟨_, rfl⟩, g24.trans g25⟩)
          | true =>
            refine if_pos_of rfl ⟨_, rfl, _, rfl, v, Vj, z, rfl, hV22.grows ((g23.trans g24).trans g25), by omega, fun H26 g26 => ⟨_, rfl, if_neg_of (by rw [lies_in okU okV hd.symm eU]; decide) ?_⟩⟩
            exact ⟨⟨_, rfl⟩, (g24.trans g25).trans g26⟩
      · rintro σ H24 ⟨⟨v8, rfl⟩, g24⟩
        exact ⟨⟨_, _, _, _, rfl⟩, (gg22.trans g23).trans g24⟩
    · rintro σ H11 ⟨⟨v5, v6, v7, v8, rfl⟩, g11⟩
      have L11 := L10.grows g11
      have hI11 := hI10.grows g11
      have hJ11 := hJ10.grows g11
      have hT11 := hT10.grows g11
      clear pairs k6 hI10 hJ10 hT10 L10
      -- it goes on from one to the next
      dsimp only [tSeq]
      refine go_no (fun H' => Grows H11 H') (fun k hk => ?_) (fun H12 g12 => ?_)
      · refine ⟨_, rfl, _, rfl, _, rfl, .str ls, .ref x1, .ref x2, rfl, .inr ⟨ls, rfl, hlsz, lo.ok, .inr ⟨x1, I, rfl, hI11, hokI, .inr ⟨x2, J, rfl, hJ11, hokJ, fun H12 g12 => ⟨_, _, rfl, rfl, _, rfl, ?_⟩⟩⟩⟩⟩
        cases h1 : lies (partsOf I) (partsOf J) with
        | false => exact if_neg_of (by decide) (hk H12 g12)
        | true =>
          refine if_pos_of rfl ⟨_, rfl, _, rfl, _, rfl, .str ls, .ref x2, .ref x3, rfl, .inr ⟨ls, rfl, hlsz, lo.ok, .inr ⟨x2, J, rfl, hJ11.grows g12, hokJ, .inr ⟨x3, T, rfl, hT11.grows g12, hokT, fun H13 g13 => ⟨_, _, rfl, rfl, _, rfl, ?_⟩⟩⟩⟩⟩
          have g113 := g12.trans g13
          cases h2 : lies (partsOf J) (partsOf T) with
          | false => exact if_neg_of (by decide) (hk H13 g113)
          | true =>
            refine if_pos_of rfl ⟨_, rfl, _, rfl, _, rfl, .str ls, .ref x1, .ref x3, rfl, .inr ⟨ls, rfl, hlsz, lo.ok, .inr ⟨x1, I, rfl, hI11.grows g113, hokI, .inr ⟨x3, T, rfl, hT11.grows g113, hokT, fun H14 g14 => ⟨_, _, rfl, rfl, _, rfl, ?_⟩⟩⟩⟩⟩
            rw [lies_on hokI hokJ hokT h1 h2]
            exact hk H14 (g113.trans g14)
      have L12 := L11.grows g12
      have hI12 := hI11.grows g12
      clear L11 hI11 hJ11 hT11
      -- nothing is within all, all within the lot of all letters
      refine ⟨_, rfl, by show 0 ≤ sizeLine; decide, fun e ne => ?_⟩
      have ge : Grows H12 (upd H12 e (.tup [])) := Grows.new ne
      have ke : upd H12 e (.tup []) e = some (.tup []) := upd_same
      generalize upd H12 e (.tup []) = H13 at ge ke ⊢
      refine ⟨_, rfl, .str ls, .ref e, .ref x1, rfl, .inr ⟨ls, rfl, hlsz, lo.ok, .inr ⟨e, [], rfl, ⟨.inl (.inl ke), (fun q hq => by cases hq)⟩, okI_mk (by decide) (fun q hq => by cases hq), .inr ⟨x1, I, rfl, hI12.grows ge, hokI, fun H14 g14 => ⟨_, _, rfl, rfl, _, rfl, ?_⟩⟩⟩⟩⟩
      rw [show lies (partsOf []) (partsOf I) = true from lies_nil _]
      refine if_neg_of (by decide) ?_
      have g124 := ge.trans g14
      refine ⟨_, rfl, _, rfl, _, rfl, by show 2 ≤ sizeLine; decide, fun t1 n1 => ?_⟩
      have e1 : Grows H14 (upd H14 t1 (.tup [.str "lot", .str ls])) := Grows.new n1
      have k1 : upd H14 t1 (.tup [.str "lot", .str ls]) t1 = some (.tup [.str "lot", .str ls]) := upd_same
      generalize upd H14 t1 (.tup [.str "lot", .str ls]) = H15 at e1 k1 ⊢
      refine ⟨by show 1 ≤ sizeLine; decide, fun t2 n2 => ?_⟩
      have e2 : Grows H15 (upd H15 t2 (.tup [.ref t1])) := Grows.new n2
      have k2 : upd H15 t2 (.tup [.ref t1]) t2 = some (.tup [.ref t1]) := upd_same
      generalize upd H15 t2 (.tup [.ref t1]) = H16 at e2 k2 ⊢
      have g126 := (g124.trans e1).trans e2
      have hA : IdAt K H16 t2 [(t1, ⟨true, ls⟩)] := ⟨.inl (.inl k2), fun q hq => by rw [List.mem_singleton.mp hq]; exact .inl (.inl (e2 _ _ k1))⟩
      have okA : okIdeal ls [(t1, ⟨true, ls⟩)] = true := okI_mk (by show 1 ≤ 60; decide) fun q hq => by
        rw [List.mem_singleton.mp hq]
        show (okLetters ls && subT ls ls && (true || decide (ls.length = 1))) = true
        rw [lo.ok, subT_self]
        rfl
      refine ⟨.str ls, .ref x1, .ref t2, rfl, .inr ⟨ls, rfl, hlsz, lo.ok, .inr ⟨x1, I, rfl, hI12.grows g126, hokI, .inr ⟨t2, _, rfl, hA, okA, fun H17 g17 => ⟨_, _, rfl, rfl, _, rfl, ?_⟩⟩⟩⟩⟩
      rw [show lies (partsOf I) (partsOf [(t1, ⟨true, ls⟩)]) = true from lies_lot _ fun p hp => by obtain ⟨q, hq, rfl⟩ := List.mem_map.mp hp; exact hpI q hq]
      refine if_neg_of (by decide) ?_
      have g127 := g126.trans g17
      have L17 := L12.grows g127
      have hI17 := hI12.grows g127
      clear L12 hI12 hA okA
      -- bad
      refine ⟨_, rfl, _, rfl, by show 2 ≤ sizeLine; decide, fun t1 nt1 => ?_⟩
      have gA1 : Grows H17 (upd H17 t1 (.tup [.str "lot", .str ls])) := Grows.new nt1
      generalize upd H17 t1 (.tup [.str "lot", .str ls]) = H27 at gA1 ⊢
      refine ⟨by show 1 ≤ sizeLine; decide, fun l1 nl1 => ?_⟩
      have gA2 : Grows H27 (upd H27 l1 (.lst [.ref t1])) := Grows.new nl1
      have kl1 : upd H27 l1 (.lst [.ref t1]) l1 = some (.lst [.ref t1]) := upd_same
      generalize upd H27 l1 (.lst [.ref t1]) = H28 at gA2 kl1 ⊢
      refine ⟨by show 2 ≤ sizeLine; decide, fun t2 nt2 => ?_⟩
      have gA3 : Grows H28 (upd H28 t2 (.tup [.str "lot", .str "q1"])) := Grows.new nt2
      have kt2 : upd H28 t2 (.tup [.str "lot", .str "q1"]) t2 = some (.tup [.str "lot", .str "q1"]) := upd_same
      generalize upd H28 t2 (.tup [.str "lot", .str "q1"]) = H29 at gA3 kt2 ⊢
      refine ⟨by show 1 ≤ sizeLine; decide, fun t3 nt3 => ?_⟩
      have gA4 : Grows H29 (upd H29 t3 (.tup [.ref t2])) := Grows.new nt3
      have kt3 : upd H29 t3 (.tup [.ref t2]) t3 = some (.tup [.ref t2]) := upd_same
      generalize upd H29 t3 (.tup [.ref t2]) = H30 at gA4 kt3 ⊢
      refine ⟨by show 2 ≤ sizeLine; decide, fun t4 nt4 => ?_⟩
      have gA5 : Grows H30 (upd H30 t4 (.tup [.str "may", .str ""])) := Grows.new nt4
      have kt4 : upd H30 t4 (.tup [.str "may", .str ""]) t4 = some (.tup [.str "may", .str ""]) := upd_same
      generalize upd H30 t4 (.tup [.str "may", .str ""]) = H31 at gA5 kt4 ⊢
      refine ⟨by show 1 ≤ sizeLine; decide, fun t5 nt5 => ?_⟩
      have gA6 : Grows H31 (upd H31 t5 (.tup [.ref t4])) := Grows.new nt5
      have kt5 : upd H31 t5 (.tup [.ref t4]) t5 = some (.tup [.ref t4]) := upd_same
      generalize upd H31 t5 (.tup [.ref t4]) = H32 at gA6 kt5 ⊢
      obtain ⟨c0, hc0⟩ : ∃ c0, ls.cps.toList[0]? = some c0 := ⟨_, List.getElem?_eq_getElem (by rw [cut_len]; exact lo.pos)⟩
      refine ⟨_, rfl, ls, 0, c0, rfl, rfl, hlsz, atI_nat (j := 0) hc0, by show 2 ≤ sizeLine; decide, fun t6 nt6 => ?_⟩
      have gA7 : Grows H32 (upd H32 t6 (.tup [.str "lot", .str ⟨#[c0]⟩])) := Grows.new nt6
      have kt6 : upd H32 t6 (.tup [.str "lot", .str ⟨#[c0]⟩]) t6 = some (.tup [.str "lot", .str ⟨#[c0]⟩]) := upd_same
      generalize upd H32 t6 (.tup [.str "lot", .str ⟨#[c0]⟩]) = H33 at gA7 kt6 ⊢
      refine ⟨by show 1 ≤ sizeLine; decide, fun t7 nt7 => ?_⟩
      have gA8 : Grows H33 (upd H33 t7 (.tup [.ref t6])) := Grows.new nt7
      have kt7 : upd H33 t7 (.tup [.ref t6]) t7 = some (.tup [.ref t6]) := upd_same
      generalize upd H33 t7 (.tup [.ref t6]) = H34 at gA8 kt7 ⊢
      refine ⟨t7, 61, [.ref t6], rfl, rfl, .inl (.inl kt7), by simp, by decide, by decide, by show 1 ≤ 1000; decide, fun t8 nt8 => ?_⟩
      rw [show (List.replicate (61 : Int).toNat [V.ref t6]).flatten = refsP (List.replicate 61 (t6, ⟨true, ⟨#[c0]⟩⟩)) from rfl]
      have gA9 : Grows H34 (upd H34 t8 (.tup (refsP (List.replicate 61 (t6, ⟨true, ⟨#[c0]⟩⟩))))) := Grows.new nt8
      have kt8 : upd H34 t8 (.tup (refsP (List.replicate 61 (t6, ⟨true, ⟨#[c0]⟩⟩)))) t8 = some (.tup (refsP (List.replicate 61 (t6, ⟨true, ⟨#[c0]⟩⟩)))) := upd_same
      generalize upd H34 t8 (.tup (refsP (List.replicate 61 (t6, ⟨true, ⟨#[c0]⟩⟩)))) = H35 at gA9 kt8 ⊢
      refine ⟨by show 6 ≤ sizeLine; decide, fun p np => ?_⟩
      have gA10 : Grows H35 (upd H35 p (.lst [.non, .ref l1, .ref t3, .ref t5, .int 5, .ref t8])) := Grows.new np
      have kp : upd H35 p (.lst [.non, .ref l1, .ref t3, .ref t5, .int 5, .ref t8]) p = some (.lst [.non, .ref l1, .ref t3, .ref t5, .int 5, .ref t8]) := upd_same
      have c9 := gA9
      have c8 := gA8.trans c9
      have c7 := gA7.trans c8
      have c6 := gA6.trans c7
      have c5 := gA5.trans c6
      have c4 := gA4.trans c5
      have c3 := gA3.trans c4
      have c1 := (gA1.trans gA2).trans c3
      have L35 := L17.grows c1
      have pg : p ≠ g := by
        obtain ⟨xs, hx⟩ := L35.sat.off.gr
        exact (ne_of_none hx np).symm
      have l1g : l1 ≠ g := by
        obtain ⟨xs, hx⟩ := (L17.grows gA1).sat.off.gr
        exact (ne_of_none hx nl1).symm
      have l1a : l1 ≠ a := by
        obtain ⟨xs, hx⟩ := (L17.grows gA1).sat.off.st
        exact (ne_of_none hx nl1).symm
      have kl := c3 _ _ kl1
      have kI3 : IdAt K H35 t3 [(t2, ⟨true, "q1"⟩)] := ⟨.inl (.inl (c5 _ _ kt3)), fun q hq => by rw [List.mem_singleton.mp hq]; exact .inl (.inl (c4 _ _ kt2))⟩
      have kI5 : IdAt K H35 t5 [(t4, ⟨false, ""⟩)] := ⟨.inl (.inl (c7 _ _ kt5)), fun q hq => by rw [List.mem_singleton.mp hq]; exact .inl (.inl (c6 _ _ kt4))⟩
      have kI8 : IdAt K H35 t8 (List.replicate 61 (t6, ⟨true, ⟨#[c0]⟩⟩)) := ⟨.inl (.inl kt8), fun q hq => by rw [(List.mem_replicate.mp hq).2]; exact .inl (.inl (c8 _ _ kt6))⟩
      have hI35 := hI17.grows c1
      clear kl1 kt2 kt3 kt4 kt5 kt6 kt7 kt8 c1 c3 c4 c5 c6 c7 c8 c9 gA1 gA2 gA3 gA4 gA5 gA6 gA7 gA8 gA9 hI17 L17
      generalize upd H35 p (.lst [.non, .ref l1, .ref t3, .ref t5, .int 5, .ref t8]) = H36 at gA10 kp ⊢
      have L36 := L35.grows gA10
      refine ⟨a, g, cA, p, cs, 1000 * i + 300, _, rfl, L36.sat, by omega, kp, pg, by simp, by show 6 ≤ 1000000; decide, fun H37 bd hbd s37 b37 => ?_⟩
      have L37 := (L36.but b37 s37).mono (show 1000 * i + 300 + 1 ≤ 1000 * (i + 1) by omega)
      have f36 := L36.sat.off
      have kl37 := b37 _ _ (gA10 _ _ kl) l1a l1g
      have k3 := (kI3.grows gA10).but f36 b37
      have k5 := (kI5.grows gA10).but f36 b37
      have k8 := (kI8.grows gA10).but f36 b37
      have hI37 := (hI35.grows gA10).but f36 b37
      have bad37 : BadI K H37 ls bd := by
        simp only [List.mem_cons, List.not_mem_nil, or_false] at hbd
        rcases hbd with rfl | rfl | rfl | rfl | rfl | rfl
        · exact .inl ⟨"NoneType", .base .non, by decide +kernel⟩
        · exact .inl ⟨"list", .base (.lst kl37), by decide +kernel⟩
        · refine .inr ⟨t3, _, rfl, k3, by show 1 ≤ 1000; decide, fun q hq => by rw [List.mem_singleton.mp hq]; show 2 ≤ 1000; decide, ?_⟩
          have e1 : okLetters "q1" = false := by decide +kernel
          show (decide (1 ≤ 60) && ((okLetters "q1" && subT "q1" ls && (true || decide (("q1" : Str).length = 1))) && true)) = false
          rw [e1]
          rfl
        · refine .inr ⟨t5, _, rfl, k5, by show 1 ≤ 1000; decide, fun q hq => by rw [List.mem_singleton.mp hq]; show 0 ≤ 1000; decide, ?_⟩
          have e1 : okLetters "" = false := by decide +kernel
          show (decide (1 ≤ 60) && ((okLetters "" && subT "" ls && (false || decide (("" : Str).length = 1))) && true)) = false
          rw [e1]
          rfl
        · exact .inl ⟨"int", .base (.int 5), by decide +kernel⟩
        · refine .inr ⟨t8, _, rfl, k8, by rw [List.length_replicate]; decide, fun q hq => by rw [(List.mem_replicate.mp hq).2]; show 1 ≤ 1000; decide, ?_⟩
          unfold okIdeal
          rw [List.length_replicate]
          rfl
      clear kl37 k3 k5 k8 kI3 kI5 kI8 kl hI35 L35 L36 gA10 kp pg l1g l1a
      try dsimp only [tSeq, tIfS, tNot]
      refine go_caught (K := K) (fun H' => ExtN H37 H' ∧ LS H' a g cA cs (1000 * (i + 1)) Pt) SI.exm SI.ec SI.kit L37.tab (fun Ha E Q' ea ta hE => ?_) (fun Ha ax ra nax => ⟨true, rfl, if_neg_of (by decide) ?_⟩)
      · have La := L37.ext ea ta
        have fin : ∀ H', Grows Ha H' → E (.ref CI) none H' := fun H' g' => hE H' ⟨ExtN.tr ea g'.extN, La.grows g'⟩
        exact ⟨_, rfl, _, rfl, .str ls, bd, .non, rfl, .inr ⟨ls, rfl, hlsz, lo.ok, .inl ⟨bad37.ext ea, fin⟩⟩⟩
      have ga := Grows.new (o := .ext (Kept (.ref CI) none ax)) nax
      have La := ra.2.grows ga
      have ea := ExtN.tr ra.1 ga.extN
      generalize upd Ha ax (.ext (Kept (.ref CI) none ax)) = Hb at La ea ⊢
      try dsimp only [tSeq, tIfS, tNot]
      refine go_caught (K := K) (fun H' => ExtN H37 H' ∧ LS H' a g cA cs (1000 * (i + 1)) Pt) SI.exm SI.ec SI.kit La.tab (fun Hc E Q' ec tc hE => ?_) (fun Hc cx rc ncx => ⟨true, rfl, if_neg_of (by decide) ?_⟩)
      · have Lc := La.ext ec tc
        have e2 := ExtN.tr ea ec
        have fin : ∀ H', Grows Hc H' → E (.ref CI) none H' := fun H' g' => hE H' ⟨ExtN.tr e2 g'.extN, Lc.grows g'⟩
        exact ⟨_, rfl, _, rfl, _, rfl, .str ls, .ref x1, bd, rfl, .inr ⟨ls, rfl, hlsz, lo.ok, .inr ⟨x1, I, rfl, hI37.ext e2, hokI, .inl ⟨bad37.ext e2, fin⟩⟩⟩⟩
      have gc := Grows.new (o := .ext (Kept (.ref CI) none cx)) ncx
      have Lc := rc.2.grows gc
      have ec := ExtN.tr rc.1 gc.extN
      generalize upd Hc cx (.ext (Kept (.ref CI) none cx)) = Hd at Lc ec ⊢
      try dsimp only [tSeq, tIfS, tNot]
      refine go_caught (K := K) (fun H' => LS H' a g cA cs (1000 * (i + 1)) Pt) SN.exm SN.ec SN.kit Lc.tab (fun He E Q' ee te hE => ?_) (fun He ex re nex => ⟨true, rfl, if_neg_of (by decide) ?_⟩)
      · have Le := Lc.ext ee te
        have fin : ∀ H', Grows He H' → E (.ref CN) none H' := fun H' g' => hE H' (Le.grows g')
        exact ⟨_, rfl, _, rfl, .str "zz", bd, bd, rfl, .inl ⟨.inr ⟨"zz", rfl, by show 2 ≤ sizeLine; omega, by decide +kernel⟩, fin⟩⟩
      exact ⟨⟨_, _, _, _, _, _, _, _, _, _, rfl⟩, re.grows (Grows.new nex)⟩
  · rintro σ H2 ⟨⟨v2, v3, v4, v5, v6, v7, v8, v9, v10, v11, rfl⟩, L⟩
    exact q H2
end
end SWL
set_option Elab.async false
set_option linter.all false
set_option maxRecDepth 100000
set_option maxHeartbeats 16000000
namespace SWL
open PySem PySem.Spec PyProof.Rows L2 LamX
/-! the facts of the top, gathered -/
theorem exm_by {K : PySem.W.Frag} {C : Value} {S : Addr} (h1 : PySem.W.subIn K (.ref S) (.type "BaseException") = some true) (h2 : PySem.W.isClsIn K S = true) (h3 : PySem.W.typeIn K (.ref S) = some (.type "type")) (h4 : PySem.W.subIn K C (.ref S) = some true) : PySem.W.exmOne K C (.ref S) = some true := by
  have e1 : (PySem.W.subIn K (.ref S) (.type "BaseException") == some true) = true := by rw [h1] <;> rfl
  have e2 : ((PySem.W.clsIn K S).isSome && PySem.W.typeIn K (.ref S) == some (.type "type")) = true := by
    have h5 : (PySem.W.clsIn K S).isSome = true := h2
    rw [h5, h3] <;> rfl
  show (if (PySem.W.subIn K (.ref S) (.type "BaseException") == some true) = true then (if ((PySem.W.clsIn K S).isSome && PySem.W.typeIn K (.ref S) == some (.type "type")) = true then PySem.W.subIn K C (.ref S) else none) else none) = some true
  rw [if_pos e1, if_pos e2]
  exact h4
theorem kit_self {K : PySem.W.Frag} {C : Addr} : PySem.W.kitOne K (.ref C) (.ref C) = some true := by
  unfold PySem.W.kitOne
  rw [if_pos (by simp)]
theorem all_mk {l : PySem.W.OpenLaw} {w : World} {K : PySem.W.Frag} {h : Heap} {mg : Str → Option Value} {q : Program} {loose : List Str} {mean : ExcName → Option Value} {mb : Str → Option Value} {dL : DefRec} {fa : Addr} (X : K.In h) (G : h.Ns mainGlobals mg) (T : Top q loose mean mg mb h) (hfa : mg "law" = some (.ref fa))
    {f0 f1 f2 f3 f4 f5 f6 f7 f8 f9 f10 f11 f12 f13 f14 f15 f16 f17 f18 f19 f20 f21 f22 f23 f24 f25 f26 cL Pt CS CN CI : Addr} {oc0 dc0 pm0 ct0 kV0 cd0 oc1 dc1 pm1 ct1 kV1 cd1 oc2 dc2 pm2 ct2 kV2 cd2 oc3 dc3 pm3 ct3 kV3 cd3 oc4 dc4 pm4 ct4 kV4 cd4 oc5 dc5 pm5 ct5 kV5 cd5 oc6 dc6 pm6 ct6 kV6 cd6 oc7 dc7 pm7 ct7 kV7 cd7 oc8 dc8 pm8 ct8 kV8 cd8 oc9 dc9 pm9 ct9 kV9 cd9 oc10 dc10 pm10 ct10 kV10 cd10 oc11 dc11 pm11 ct11 kV11 cd11 oc12 dc12 pm12 ct12 kV12 cd12 oc13 dc13 pm13 ct13 kV13 cd13 oc14 dc14 pm14 ct14 kV14 cd14 oc15 dc15 pm15 ct15 kV15 cd15 oc16 dc16 pm16 ct16 kV16 cd16 oc17 dc17 pm17 ct17 kV17 cd17 oc18 dc18 pm18 ct18 kV18 cd18 oc19 dc19 pm19 ct19 kV19 cd19 oc20 dc20 pm20 ct20 kV20 cd20 oc21 dc21 pm21 ct21 kV21 cd21 oc22 dc22 pm22 ct22 kV22 cd22 oc23 dc23 pm23 ct23 kV23 cd23 oc24 dc24 pm24 ct24 kV24 cd24 oc25 dc25 pm25 ct25 kV25 cd25 oc26 dc26 pm26 ct26 kV26 ocT : Value} {od0 an0 od1 an1 od2 an2 od3 an3 od4 an4 od5 an5 od6 an6 od7 an7 od8 an8 od9 an9 od10 an10 od11 an11 od12 an12 od13 an13 od14 an14 od15 an15 od16 an16 od17 an17 od18 an18 od19 an19 od20 an20 od21 an21 od22 an22 od23 an23 od24 an24 od25 an25 od26 an26 odT : Option Addr} {sl0 sl1 sl2 sl3 sl4 sl5 sl6 sl7 sl8 sl9 sl10 sl11 sl12 sl13 sl14 sl15 sl16 sl17 sl18 sl19 sl20 sl21 sl22 sl23 sl24 sl25 sl26 slT : Array (Option Value)} {tS tL tP : Tok} {vsT : Array Value}
    (hrec : (recsOf q).find? (fun e => e.name == ("law" : Str)) = some dL)
    (a0 : PySem.W.nsIn K mainGlobals "is_letters" = some (some (.ref f0)))
    (l0 : K.lookup f0 = some ⟨oc0, od0, .func (PySem.W.fnOf "is_letters" "is_letters" (defArgs sIsL) (defBody sIsL) (defScope sIsL) .none kV0 dc0 pm0 an0 cd0 ct0), sl0⟩)
    (c0 : PySem.W.codeIn K cd0 "is_letters" = true)
    (k0 : PySem.W.keepIn K (.ref f0) = true)
    (a1 : PySem.W.nsIn K mainGlobals "need_letters" = some (some (.ref f1)))
    (l1 : K.lookup f1 = some ⟨oc1, od1, .func (PySem.W.fnOf "need_letters" "need_letters" (defArgs sNeedL) (defBody sNeedL) (defScope sNeedL) .none kV1 dc1 pm1 an1 cd1 ct1), sl1⟩)
    (c1 : PySem.W.codeIn K cd1 "need_letters" = true)
    (k1 : PySem.W.keepIn K (.ref f1) = true)
    (a2 : PySem.W.nsIn K mainGlobals "is_part" = some (some (.ref f2)))
    (l2 : K.lookup f2 = some ⟨oc2, od2, .func (PySem.W.fnOf "is_part" "is_part" (defArgs sIsPart) (defBody sIsPart) (defScope sIsPart) .none kV2 dc2 pm2 an2 cd2 ct2), sl2⟩)
    (c2 : PySem.W.codeIn K cd2 "is_part" = true)
    (k2 : PySem.W.keepIn K (.ref f2) = true)
    (a3 : PySem.W.nsIn K mainGlobals "is_ideal" = some (some (.ref f3)))
    (l3 : K.lookup f3 = some ⟨oc3, od3, .func (PySem.W.fnOf "is_ideal" "is_ideal" (defArgs sIsIdeal) (defBody sIsIdeal) (defScope sIsIdeal) .none kV3 dc3 pm3 an3 cd3 ct3), sl3⟩)
    (c3 : PySem.W.codeIn K cd3 "is_ideal" = true)
    (k3 : PySem.W.keepIn K (.ref f3) = true)
    (a4 : PySem.W.nsIn K mainGlobals "need_ideal" = some (some (.ref f4)))
    (l4 : K.lookup f4 = some ⟨oc4, od4, .func (PySem.W.fnOf "need_ideal" "need_ideal" (defArgs sNeedIdeal) (defBody sNeedIdeal) (defScope sNeedIdeal) .none kV4 dc4 pm4 an4 cd4 ct4), sl4⟩)
    (c4 : PySem.W.codeIn K cd4 "need_ideal" = true)
    (k4 : PySem.W.keepIn K (.ref f4) = true)
    (a5 : PySem.W.nsIn K mainGlobals "has_all" = some (some (.ref f5)))
    (l5 : K.lookup f5 = some ⟨oc5, od5, .func (PySem.W.fnOf "has_all" "has_all" (defArgs sHasAll) (defBody sHasAll) (defScope sHasAll) .none kV5 dc5 pm5 an5 cd5 ct5), sl5⟩)
    (c5 : PySem.W.codeIn K cd5 "has_all" = true)
    (k5 : PySem.W.keepIn K (.ref f5) = true)
    (a6 : PySem.W.nsIn K mainGlobals "plain_of" = some (some (.ref f6)))
    (l6 : K.lookup f6 = some ⟨oc6, od6, .func (PySem.W.fnOf "plain_of" "plain_of" (defArgs sPlainOf) (defBody sPlainOf) (defScope sPlainOf) .none kV6 dc6 pm6 an6 cd6 ct6), sl6⟩)
    (c6 : PySem.W.codeIn K cd6 "plain_of" = true)
    (k6 : PySem.W.keepIn K (.ref f6) = true)
    (a7 : PySem.W.nsIn K mainGlobals "plain_ideal" = some (some (.ref f7)))
    (l7 : K.lookup f7 = some ⟨oc7, od7, .func (PySem.W.fnOf "plain_ideal" "plain_ideal" (defArgs sPlainId) (defBody sPlainId) (defScope sPlainId) .none kV7 dc7 pm7 an7 cd7 ct7), sl7⟩)
    (c7 : PySem.W.codeIn K cd7 "plain_ideal" = true)
    (k7 : PySem.W.keepIn K (.ref f7) = true)
    (a8 : PySem.W.nsIn K mainGlobals "lies_within" = some (some (.ref f8)))
    (l8 : K.lookup f8 = some ⟨oc8, od8, .func (PySem.W.fnOf "lies_within" "lies_within" (defArgs sLies) (defBody sLies) (defScope sLies) .none kV8 dc8 pm8 an8 cd8 ct8), sl8⟩)
    (c8 : PySem.W.codeIn K cd8 "lies_within" = true)
    (k8 : PySem.W.keepIn K (.ref f8) = true)
    (a9 : PySem.W.nsIn K mainGlobals "is_within" = some (some (.ref f9)))
    (l9 : K.lookup f9 = some ⟨oc9, od9, .func (PySem.W.fnOf "is_within" "is_within" (defArgs sWithin) (defBody sWithin) (defScope sWithin) .none kV9 dc9 pm9 an9 cd9 ct9), sl9⟩)
    (c9 : PySem.W.codeIn K cd9 "is_within" = true)
    (k9 : PySem.W.keepIn K (.ref f9) = true)
    (a10 : PySem.W.nsIn K mainGlobals "_law_begun" = some (some (.ref f10)))
    (l10 : K.lookup f10 = some ⟨oc10, od10, .func (PySem.W.fnOf "_law_begun" "_law_begun" (defArgs sBegun) (defBody sBegun) (defScope sBegun) .none kV10 dc10 pm10 an10 cd10 ct10), sl10⟩)
    (c10 : PySem.W.codeIn K cd10 "_law_begun" = true)
    (k10 : PySem.W.keepIn K (.ref f10) = true)
    (a11 : PySem.W.nsIn K mainGlobals "_law_mixed" = some (some (.ref f11)))
    (l11 : K.lookup f11 = some ⟨oc11, od11, .func (PySem.W.fnOf "_law_mixed" "_law_mixed" (defArgs sMixed) (defBody sMixed) (defScope sMixed) .none kV11 dc11 pm11 an11 cd11 ct11), sl11⟩)
    (c11 : PySem.W.codeIn K cd11 "_law_mixed" = true)
    (k11 : PySem.W.keepIn K (.ref f11) = true)
    (a12 : PySem.W.nsIn K mainGlobals "_law_draw" = some (some (.ref f12)))
    (l12 : K.lookup f12 = some ⟨oc12, od12, .func (PySem.W.fnOf "_law_draw" "_law_draw" (defArgs sDraw) (defBody sDraw) (defScope sDraw) .none kV12 dc12 pm12 an12 cd12 ct12), sl12⟩)
    (c12 : PySem.W.codeIn K cd12 "_law_draw" = true)
    (k12 : PySem.W.keepIn K (.ref f12) = true)
    (a13 : PySem.W.nsIn K mainGlobals "_law_pick" = some (some (.ref f13)))
    (l13 : K.lookup f13 = some ⟨oc13, od13, .func (PySem.W.fnOf "_law_pick" "_law_pick" (defArgs sPick) (defBody sPick) (defScope sPick) .none kV13 dc13 pm13 an13 cd13 ct13), sl13⟩)
    (c13 : PySem.W.codeIn K cd13 "_law_pick" = true)
    (k13 : PySem.W.keepIn K (.ref f13) = true)
    (a14 : PySem.W.nsIn K mainGlobals "_law_plain" = some (some (.ref f14)))
    (l14 : K.lookup f14 = some ⟨oc14, od14, .func (PySem.W.fnOf "_law_plain" "_law_plain" (defArgs sPlain) (defBody sPlain) (defScope sPlain) .none kV14 dc14 pm14 an14 cd14 ct14), sl14⟩)
    (c14 : PySem.W.codeIn K cd14 "_law_plain" = true)
    (k14 : PySem.W.keepIn K (.ref f14) = true)
    (a15 : PySem.W.nsIn K mainGlobals "_law_is" = some (some (.ref f15)))
    (l15 : K.lookup f15 = some ⟨oc15, od15, .func (PySem.W.fnOf "_law_is" "_law_is" (defArgs sIs) (defBody sIs) (defScope sIs) .none kV15 dc15 pm15 an15 cd15 ct15), sl15⟩)
    (c15 : PySem.W.codeIn K cd15 "_law_is" = true)
    (k15 : PySem.W.keepIn K (.ref f15) = true)
    (a16 : PySem.W.nsIn K mainGlobals "_law_caught" = some (some (.ref f16)))
    (l16 : K.lookup f16 = some ⟨oc16, od16, .func (PySem.W.fnOf "_law_caught" "_law_caught" (defArgs sCaught) (defBody sCaught) (defScope sCaught) .none kV16 dc16 pm16 an16 cd16 ct16), sl16⟩)
    (c16 : PySem.W.codeIn K cd16 "_law_caught" = true)
    (k16 : PySem.W.keepIn K (.ref f16) = true)
    (a17 : PySem.W.nsIn K mainGlobals "_law_mo_letters" = some (some (.ref f17)))
    (l17 : K.lookup f17 = some ⟨oc17, od17, .func (PySem.W.fnOf "_law_mo_letters" "_law_mo_letters" (defArgs sMoL) (defBody sMoL) (defScope sMoL) .none kV17 dc17 pm17 an17 cd17 ct17), sl17⟩)
    (c17 : PySem.W.codeIn K cd17 "_law_mo_letters" = true)
    (k17 : PySem.W.keepIn K (.ref f17) = true)
    (a18 : PySem.W.nsIn K mainGlobals "_law_mo_words" = some (some (.ref f18)))
    (l18 : K.lookup f18 = some ⟨oc18, od18, .func (PySem.W.fnOf "_law_mo_words" "_law_mo_words" (defArgs sMoWords) (defBody sMoWords) (defScope sMoWords) .none kV18 dc18 pm18 an18 cd18 ct18), sl18⟩)
    (c18 : PySem.W.codeIn K cd18 "_law_mo_words" = true)
    (k18 : PySem.W.keepIn K (.ref f18) = true)
    (a19 : PySem.W.nsIn K mainGlobals "_law_mo_part" = some (some (.ref f19)))
    (l19 : K.lookup f19 = some ⟨oc19, od19, .func (PySem.W.fnOf "_law_mo_part" "_law_mo_part" (defArgs sMoPart) (defBody sMoPart) (defScope sMoPart) .none kV19 dc19 pm19 an19 cd19 ct19), sl19⟩)
    (c19 : PySem.W.codeIn K cd19 "_law_mo_part" = true)
    (k19 : PySem.W.keepIn K (.ref f19) = true)
    (a20 : PySem.W.nsIn K mainGlobals "_law_mo_ideal" = some (some (.ref f20)))
    (l20 : K.lookup f20 = some ⟨oc20, od20, .func (PySem.W.fnOf "_law_mo_ideal" "_law_mo_ideal" (defArgs sMoIdeal) (defBody sMoIdeal) (defScope sMoIdeal) .none kV20 dc20 pm20 an20 cd20 ct20), sl20⟩)
    (c20 : PySem.W.codeIn K cd20 "_law_mo_ideal" = true)
    (k20 : PySem.W.keepIn K (.ref f20) = true)
    (a21 : PySem.W.nsIn K mainGlobals "_law_mo_rest" = some (some (.ref f21)))
    (l21 : K.lookup f21 = some ⟨oc21, od21, .func (PySem.W.fnOf "_law_mo_rest" "_law_mo_rest" (defArgs sMoRest) (defBody sMoRest) (defScope sMoRest) .none kV21 dc21 pm21 an21 cd21 ct21), sl21⟩)
    (c21 : PySem.W.codeIn K cd21 "_law_mo_rest" = true)
    (k21 : PySem.W.keepIn K (.ref f21) = true)
    (a22 : PySem.W.nsIn K mainGlobals "_law_mo_in" = some (some (.ref f22)))
    (l22 : K.lookup f22 = some ⟨oc22, od22, .func (PySem.W.fnOf "_law_mo_in" "_law_mo_in" (defArgs sMoIn) (defBody sMoIn) (defScope sMoIn) .none kV22 dc22 pm22 an22 cd22 ct22), sl22⟩)
    (c22 : PySem.W.codeIn K cd22 "_law_mo_in" = true)
    (k22 : PySem.W.keepIn K (.ref f22) = true)
    (a23 : PySem.W.nsIn K mainGlobals "_law_mo_joined" = some (some (.ref f23)))
    (l23 : K.lookup f23 = some ⟨oc23, od23, .func (PySem.W.fnOf "_law_mo_joined" "_law_mo_joined" (defArgs sMoJoined) (defBody sMoJoined) (defScope sMoJoined) .none kV23 dc23 pm23 an23 cd23 ct23), sl23⟩)
    (c23 : PySem.W.codeIn K cd23 "_law_mo_joined" = true)
    (k23 : PySem.W.keepIn K (.ref f23) = true)
    (a24 : PySem.W.nsIn K mainGlobals "_law_mo_within" = some (some (.ref f24)))
    (l24 : K.lookup f24 = some ⟨oc24, od24, .func (PySem.W.fnOf "_law_mo_within" "_law_mo_within" (defArgs sMoWithin) (defBody sMoWithin) (defScope sMoWithin) .none kV24 dc24 pm24 an24 cd24 ct24), sl24⟩)
    (c24 : PySem.W.codeIn K cd24 "_law_mo_within" = true)
    (k24 : PySem.W.keepIn K (.ref f24) = true)
    (a25 : PySem.W.nsIn K mainGlobals "_law_iw_changed" = some (some (.ref f25)))
    (l25 : K.lookup f25 = some ⟨oc25, od25, .func (PySem.W.fnOf "_law_iw_changed" "_law_iw_changed" (defArgs sChanged) (defBody sChanged) (defScope sChanged) .none kV25 dc25 pm25 an25 cd25 ct25), sl25⟩)
    (c25 : PySem.W.codeIn K cd25 "_law_iw_changed" = true)
    (k25 : PySem.W.keepIn K (.ref f25) = true)
    (a26 : PySem.W.nsIn K mainGlobals "law" = some (some (.ref f26)))
    (l26 : K.lookup f26 = some ⟨oc26, od26, .func (PySem.W.fnOf "law" "law" (defArgs sLaw) (defBody sLaw) (defScope sLaw) .none kV26 dc26 pm26 an26 (.ref cL) ct26), sl26⟩)
    (c26 : PySem.W.codeIn K (.ref cL) "law" = true)
    (k26 : PySem.W.keepIn K (.ref f26) = true)
    (zs : PySem.W.nsIn K mainGlobals "SMALL" = some (some (.str "abcdefghijklmnopqrstuvwxyz" tS)))
    (zl : PySem.W.nsIn K mainGlobals "MOST_LETTERS" = some (some (.int 4 tL)))
    (zp : PySem.W.nsIn K mainGlobals "MOST_PARTS" = some (some (.int 60 tP)))
    (z_isinstance : PySem.W.nsIn K mainGlobals "isinstance" = some none)
    (z_str : PySem.W.nsIn K mainGlobals "str" = some none)
    (z_int : PySem.W.nsIn K mainGlobals "int" = some none)
    (z_list : PySem.W.nsIn K mainGlobals "list" = some none)
    (z_tuple : PySem.W.nsIn K mainGlobals "tuple" = some none)
    (z_dict : PySem.W.nsIn K mainGlobals "dict" = some none)
    (z_len : PySem.W.nsIn K mainGlobals "len" = some none)
    (z_all : PySem.W.nsIn K mainGlobals "all" = some none)
    (z_any : PySem.W.nsIn K mainGlobals "any" = some none)
    (z_zip : PySem.W.nsIn K mainGlobals "zip" = some none)
    (z_sorted : PySem.W.nsIn K mainGlobals "sorted" = some none)
    (z_abs : PySem.W.nsIn K mainGlobals "abs" = some none)
    (z_range : PySem.W.nsIn K mainGlobals "range" = some none)
    (z_min : PySem.W.nsIn K mainGlobals "min" = some none)
    (z_repr : PySem.W.nsIn K mainGlobals "repr" = some none)
    (z_enumerate : PySem.W.nsIn K mainGlobals "enumerate" = some none)
    (z_bool : PySem.W.nsIn K mainGlobals "bool" = some none)
    (lT : K.lookup cL = some ⟨ocT, odT, .fields vsT, slT⟩)
    (vT : (vsT[11]? : Option Value) = some (.ref Pt))
    (nT : K.lookup Pt = none)
    (aS : PySem.W.nsIn K mainGlobals "SwingError" = some (some (.ref CS)))
    (bS : PySem.W.subIn K (.ref CS) (.type "BaseException") = some true)
    (tS2 : PySem.W.typeIn K (.ref CS) = some (.type "type"))
    (iS : PySem.W.isClsIn K CS = true)
    (aN : PySem.W.nsIn K mainGlobals "NoLetters" = some (some (.ref CN)))
    (xN : PySem.W.excIn K CN veB "ValueError.__new__" = true)
    (kkN : PySem.W.keepIn K (.ref CN) = true)
    (bN : PySem.W.subIn K (.ref CN) (.type "BaseException") = some true)
    (tN : PySem.W.typeIn K (.ref CN) = some (.type "type"))
    (sN : PySem.W.subIn K (.ref CN) (.ref CS) = some true)
    (gN : PySem.W.findIn K (.ref CN) "__getattribute__" = some (some (.builtin "BaseException.__getattribute__")))
    (hN : PySem.W.findIn K (.ref CN) "__getattr__" = some none)
    (dN : PySem.W.hasDictIn K CN = true)
    (ccN : PySem.W.findIn K (.ref CN) "__class__" = some (some (.builtin "object.__class__")))
    (mN : PySem.W.mroIn K CN (.type "object") = some true)
    (aI : PySem.W.nsIn K mainGlobals "NoIdeal" = some (some (.ref CI)))
    (xI : PySem.W.excIn K CI veB "ValueError.__new__" = true)
    (kkI : PySem.W.keepIn K (.ref CI) = true)
    (bI : PySem.W.subIn K (.ref CI) (.type "BaseException") = some true)
    (tI : PySem.W.typeIn K (.ref CI) = some (.type "type"))
    (sI : PySem.W.subIn K (.ref CI) (.ref CS) = some true)
    (gI : PySem.W.findIn K (.ref CI) "__getattribute__" = some (some (.builtin "BaseException.__getattribute__")))
    (hI : PySem.W.findIn K (.ref CI) "__getattr__" = some none)
    (dI : PySem.W.hasDictIn K CI = true)
    (ccI : PySem.W.findIn K (.ref CI) "__class__" = some (some (.builtin "object.__class__")))
    (mI : PySem.W.mroIn K CI (.type "object") = some true)
    (sp0 : PySem.W.specialIn K (.builtin "object.__class__") "__get__" = some (some (.builtin "getset_descriptor.__get__")))
    (tk0 : PySem.W.takesIn K (.builtin "object.__class__") = some true)
    : LawG l w K 9 63 "script" mg fa h := by
  have e := hfa.symm.trans (PySem.W.mg_of X G a26)
  cases e
  have B : Blt mg := ⟨PySem.W.mg_none_of X G z_isinstance, PySem.W.mg_none_of X G z_str, PySem.W.mg_none_of X G z_int, PySem.W.mg_none_of X G z_list, PySem.W.mg_none_of X G z_tuple, PySem.W.mg_none_of X G z_dict, PySem.W.mg_none_of X G z_len, PySem.W.mg_none_of X G z_all, PySem.W.mg_none_of X G z_any, PySem.W.mg_none_of X G z_zip, PySem.W.mg_none_of X G z_sorted, PySem.W.mg_none_of X G z_abs, PySem.W.mg_none_of X G z_range, PySem.W.mg_none_of X G z_min, PySem.W.mg_none_of X G z_repr, PySem.W.mg_none_of X G z_enumerate, PySem.W.mg_none_of X G z_bool, ⟨_, PySem.W.mg_of X G zs⟩, ⟨_, PySem.W.mg_of X G zl⟩, ⟨_, PySem.W.mg_of X G zp⟩⟩
  have mgN := PySem.W.mg_of X G aN
  have eN := exm_by bS iS tS2 sN
  have EN : ErrC K mg "NoLetters" CN CS := ⟨mgN, xN, kkN, bN, tN, eN⟩
  have SN : SeenC K CN CS := ⟨eN, ⟨gN, hN, bN, dN, ccN, sp0, tk0, mN⟩, kit_self⟩
  have mgI := PySem.W.mg_of X G aI
  have eI := exm_by bS iS tS2 sI
  have EI : ErrC K mg "NoIdeal" CI CS := ⟨mgI, xI, kkI, bI, tI, eI⟩
  have SI : SeenC K CI CS := ⟨eI, ⟨gI, hI, bI, dI, ccI, sp0, tk0, mI⟩, kit_self⟩
  have F0 := fun_mk (st := sIsL) l0 c0 k0
  have D0 : Def mg K "is_letters" f0 _ ["thing"] := ⟨PySem.W.mg_of X G a0, k0, F0.binds (ps := ["thing"]) fun _ _ _ _ _ _ us hl => match us, hl with | [_], _ => rfl⟩
  have F1 := fun_mk (st := sNeedL) l1 c1 k1
  have D1 : Def mg K "need_letters" f1 _ ["thing"] := ⟨PySem.W.mg_of X G a1, k1, F1.binds (ps := ["thing"]) fun _ _ _ _ _ _ us hl => match us, hl with | [_], _ => rfl⟩
  have F2 := fun_mk (st := sIsPart) l2 c2 k2
  have D2 : Def mg K "is_part" f2 _ ["letters", "thing"] := ⟨PySem.W.mg_of X G a2, k2, F2.binds (ps := ["letters", "thing"]) fun _ _ _ _ _ _ us hl => match us, hl with | [_, _], _ => rfl⟩
  have F3 := fun_mk (st := sIsIdeal) l3 c3 k3
  have D3 : Def mg K "is_ideal" f3 _ ["letters", "thing"] := ⟨PySem.W.mg_of X G a3, k3, F3.binds (ps := ["letters", "thing"]) fun _ _ _ _ _ _ us hl => match us, hl with | [_, _], _ => rfl⟩
  have F4 := fun_mk (st := sNeedIdeal) l4 c4 k4
  have D4 : Def mg K "need_ideal" f4 _ ["letters", "thing"] := ⟨PySem.W.mg_of X G a4, k4, F4.binds (ps := ["letters", "thing"]) fun _ _ _ _ _ _ us hl => match us, hl with | [_, _], _ => rfl⟩
  have F5 := fun_mk (st := sHasAll) l5 c5 k5
  have D5 : Def mg K "has_all" f5 _ ["lot", "part"] := ⟨PySem.W.mg_of X G a5, k5, F5.binds (ps := ["lot", "part"]) fun _ _ _ _ _ _ us hl => match us, hl with | [_, _], _ => rfl⟩
  have F6 := fun_mk (st := sPlainOf) l6 c6 k6
  have D6 : Def mg K "plain_of" f6 _ ["parts"] := ⟨PySem.W.mg_of X G a6, k6, F6.binds (ps := ["parts"]) fun _ _ _ _ _ _ us hl => match us, hl with | [_], _ => rfl⟩
  have F7 := fun_mk (st := sPlainId) l7 c7 k7
  have D7 : Def mg K "plain_ideal" f7 _ ["letters", "ideal"] := ⟨PySem.W.mg_of X G a7, k7, F7.binds (ps := ["letters", "ideal"]) fun _ _ _ _ _ _ us hl => match us, hl with | [_, _], _ => rfl⟩
  have F8 := fun_mk (st := sLies) l8 c8 k8
  have D8 : Def mg K "lies_within" f8 _ ["one", "other"] := ⟨PySem.W.mg_of X G a8, k8, F8.binds (ps := ["one", "other"]) fun _ _ _ _ _ _ us hl => match us, hl with | [_, _], _ => rfl⟩
  have F9 := fun_mk (st := sWithin) l9 c9 k9
  have D9 : Def mg K "is_within" f9 _ ["letters", "one", "other"] := ⟨PySem.W.mg_of X G a9, k9, F9.binds (ps := ["letters", "one", "other"]) fun _ _ _ _ _ _ us hl => match us, hl with | [_, _, _], _ => rfl⟩
  have F10 := fun_mk (st := sBegun) l10 c10 k10
  have D10 : Def mg K "_law_begun" f10 _ ["script"] := ⟨PySem.W.mg_of X G a10, k10, F10.binds (ps := ["script"]) fun _ _ _ _ _ _ us hl => match us, hl with | [_], _ => rfl⟩
  have F11 := fun_mk (st := sMixed) l11 c11 k11
  have D11 : Def mg K "_law_mixed" f11 _ ["state"] := ⟨PySem.W.mg_of X G a11, k11, F11.binds (ps := ["state"]) fun _ _ _ _ _ _ us hl => match us, hl with | [_], _ => rfl⟩
  have F12 := fun_mk (st := sDraw) l12 c12 k12
  have D12 : Def mg K "_law_draw" f12 _ ["state", "room"] := ⟨PySem.W.mg_of X G a12, k12, F12.binds (ps := ["state", "room"]) fun _ _ _ _ _ _ us hl => match us, hl with | [_, _], _ => rfl⟩
  have F13 := fun_mk (st := sPick) l13 c13 k13
  have D13 : Def mg K "_law_pick" f13 _ ["state", "some"] := ⟨PySem.W.mg_of X G a13, k13, F13.binds (ps := ["state", "some"]) fun _ _ _ _ _ _ us hl => match us, hl with | [_, _], _ => rfl⟩
  have F14 := fun_mk (st := sPlain) l14 c14 k14
  have D14 : Def mg K "_law_plain" f14 _ ["value"] := ⟨PySem.W.mg_of X G a14, k14, F14.binds (ps := ["value"]) fun _ _ _ _ _ _ us hl => match us, hl with | [_], _ => rfl⟩
  have F15 := fun_mk (st := sIs) l15 c15 k15
  have D15 : Def mg K "_law_is" f15 _ ["found", "due"] := ⟨PySem.W.mg_of X G a15, k15, F15.binds (ps := ["found", "due"]) fun _ _ _ _ _ _ us hl => match us, hl with | [_, _], _ => rfl⟩
  have F16 := fun_mk (st := sCaught) l16 c16 k16
  have D16 : Def mg K "_law_caught" f16 _ ["action"] := ⟨PySem.W.mg_of X G a16, k16, F16.binds (ps := ["action"]) fun _ _ _ _ _ _ us hl => match us, hl with | [_], _ => rfl⟩
  have F17 := fun_mk (st := sMoL) l17 c17 k17
  have D17 : Def mg K "_law_mo_letters" f17 _ ["state"] := ⟨PySem.W.mg_of X G a17, k17, F17.binds (ps := ["state"]) fun _ _ _ _ _ _ us hl => match us, hl with | [_], _ => rfl⟩
  have F18 := fun_mk (st := sMoWords) l18 c18 k18
  have D18 : Def mg K "_law_mo_words" f18 _ ["letters", "most"] := ⟨PySem.W.mg_of X G a18, k18, F18.binds (ps := ["letters", "most"]) fun _ _ _ _ _ _ us hl => match us, hl with | [_, _], _ => rfl⟩
  have F19 := fun_mk (st := sMoPart) l19 c19 k19
  have D19 : Def mg K "_law_mo_part" f19 _ ["state", "letters"] := ⟨PySem.W.mg_of X G a19, k19, F19.binds (ps := ["state", "letters"]) fun _ _ _ _ _ _ us hl => match us, hl with | [_, _], _ => rfl⟩
  have F20 := fun_mk (st := sMoIdeal) l20 c20 k20
  have D20 : Def mg K "_law_mo_ideal" f20 _ ["state", "letters"] := ⟨PySem.W.mg_of X G a20, k20, F20.binds (ps := ["state", "letters"]) fun _ _ _ _ _ _ us hl => match us, hl with | [_, _], _ => rfl⟩
  have F21 := fun_mk (st := sMoRest) l21 c21 k21
  have D21 : Def mg K "_law_mo_rest" f21 _ ["ideal", "letter"] := ⟨PySem.W.mg_of X G a21, k21, F21.binds (ps := ["ideal", "letter"]) fun _ _ _ _ _ _ us hl => match us, hl with | [_, _], _ => rfl⟩
  have F22 := fun_mk (st := sMoIn) l22 c22 k22
  have D22 : Def mg K "_law_mo_in" f22 _ ["ideal", "word"] := ⟨PySem.W.mg_of X G a22, k22, F22.binds (ps := ["ideal", "word"]) fun _ _ _ _ _ _ us hl => match us, hl with | [_, _], _ => rfl⟩
  have F23 := fun_mk (st := sMoJoined) l23 c23 k23
  have D23 : Def mg K "_law_mo_joined" f23 _ ["ideal", "n"] := ⟨PySem.W.mg_of X G a23, k23, F23.binds (ps := ["ideal", "n"]) fun _ _ _ _ _ _ us hl => match us, hl with | [_, _], _ => rfl⟩
  have F24 := fun_mk (st := sMoWithin) l24 c24 k24
  have D24 : Def mg K "_law_mo_within" f24 _ ["one", "other"] := ⟨PySem.W.mg_of X G a24, k24, F24.binds (ps := ["one", "other"]) fun _ _ _ _ _ _ us hl => match us, hl with | [_, _], _ => rfl⟩
  have F25 := fun_mk (st := sChanged) l25 c25 k25
  have D25 : Def mg K "_law_iw_changed" f25 _ ["state", "letters", "ideal"] := ⟨PySem.W.mg_of X G a25, k25, F25.binds (ps := ["state", "letters", "ideal"]) fun _ _ _ _ _ _ us hl => match us, hl with | [_, _, _], _ => rfl⟩
  have KB : KBinds K (PySem.W.fnOf "is_within" "is_within" (defArgs sWithin) (defBody sWithin) (defScope sWithin) .none kV9 dc9 pm9 an9 cd9 ct9) ["letters", "one", "other"] ["other", "one", "letters"] (fun us ws => us ++ ws.reverse) (fun us ws => us ++ ws.reverse) := by
    refine ⟨fun s us ws _ hl => ?_, fun r1 r2 => r1.append (vals_rev r2)⟩
    rw [List.length_append, List.length_reverse] at hl
    have hl2 : us.length + ws.length = 3 := hl
    rcases us with _ | ⟨u1, _ | ⟨u2, _ | ⟨u3, _ | ⟨u4, us⟩⟩⟩⟩ <;> rcases ws with _ | ⟨w1, _ | ⟨w2, _ | ⟨w3, _ | ⟨w4, ws⟩⟩⟩⟩ <;> first | (exfalso; simp only [List.length_cons, List.length_nil] at hl2; omega) | exact .of_eq rfl
  have CK : CaughtK K mg f16 := ⟨D16.g, D16.k, _, _, _, _, _, _, _, _, _, l16, c16, D16.b⟩
  have ht : PySem.W.tabIn K "law" = some (cL, Pt) := by
    unfold PySem.W.tabIn
    simp only [a26, l26, PySem.W.fnOf, lT, vT]
  obtain ⟨hc, hp⟩ := PySem.W.tab_of T X hrec ht
  refine ⟨PySem.W.fnOf "law" "law" (defArgs sLaw) (defBody sLaw) (defScope sLaw) .none kV26 dc26 pm26 an26 (.ref cL) ct26, [(cL, Pt)], spLaw K Pt, fun p hpm => ?_, fun p hpm => ?_, fun p hpm => ?_, fun s u => .of_eq rfl, fun H a ns hn _ ht hs => ?_, fun base KX NG TB => ?_⟩
  · cases List.mem_singleton.mp hpm
    exact hp
  · cases List.mem_singleton.mp hpm
    exact nT
  · cases List.mem_singleton.mp hpm
    exact hc
  · exact ⟨a, ns, rfl, hs, hn, ht (cL, Pt) List.mem_cons_self, fun _ => rfl⟩
  · have G0 := ok_isL (P := l.prog) (w := w) (base := base) F0 B
    have G1 := ok_needL (P := l.prog) (w := w) (base := base) F1 G0 D0 EN
    have G5 := ok_hasAll (P := l.prog) (w := w) (base := base) F5 B 
    have G2 := ok_isPart (P := l.prog) (w := w) (base := base) F2 B G0 D0
    have G3 := ok_isIdeal (CI := CI) (P := l.prog) (w := w) (base := base) F3 B G1 D1 G2 D2
    have G4 := ok_needIdeal (P := l.prog) (w := w) (base := base) F4 G3 D3 EI
    have G6 := ok_plainOf (P := l.prog) (w := w) (base := base) F6 B G5 D5
    have G7 := ok_plainId (P := l.prog) (w := w) (base := base) F7 G4 D4 G6 D6
    have G8 := ok_lies (P := l.prog) (w := w) (base := base) F8 B G5 D5
    have G9 := ok_within (P := l.prog) (w := w) (base := base) F9 G4 D4 G8 D8
    have G10 := ok_begun (P := l.prog) (w := w) (base := base) F10 B 
    have G11 := ok_mixed (P := l.prog) (w := w) (base := base) F11 B 
    have G12 := ok_draw (P := l.prog) (w := w) (base := base) F12 B G11 D11
    have G13 := ok_pick (P := l.prog) (w := w) (base := base) F13 B G12 D12
    have G14 := ok_plain (P := l.prog) (w := w) (base := base) F14 B D14 1
    have G15 := ok_isV (P := l.prog) (w := w) (base := base) F15 B G14 D14
    have G17 := ok_moL (P := l.prog) (w := w) (base := base) F17 G13 D13
    have G18 := ok_moWords (P := l.prog) (w := w) (base := base) F18 B 
    have G19 := ok_moPart (P := l.prog) (w := w) (base := base) F19 B G12 D12 G13 D13
    have G20 := ok_moIdeal (P := l.prog) (w := w) (base := base) F20 B G12 D12 G19 D19
    have G21 := ok_moRest (P := l.prog) (w := w) (base := base) F21 B 
    have G22 := ok_moIn (P := l.prog) (w := w) (base := base) F22 G21 D21
    have G23 := ok_moJoined (P := l.prog) (w := w) (base := base) F23 B 
    have G24 := ok_moWithin (P := l.prog) (w := w) (base := base) F24 B G22 D22 G23 D23
    have G25 := ok_changed (P := l.prog) (w := w) (base := base) F25 B G12 D12 G19 D19
    exact ok_law l26 c26 B ⟨⟨_, _, D10, G10⟩, ⟨_, _, D17, G17⟩, ⟨_, _, D13, G13⟩, ⟨_, _, D20, G20⟩, ⟨_, _, D18, G18⟩, ⟨_, _, D22, G22⟩, ⟨_, _, D24, G24⟩, ⟨_, _, D25, G25⟩, ⟨_, _, D15, G15⟩, ⟨_, _, D9, KB, G9⟩, ⟨_, _, D7, G7⟩⟩ CK (TB (cL, Pt) List.mem_cons_self) mgN mgI (PySem.W.mg_of X G aS) SN SI
end SWL
set_option Elab.async false
set_option linter.all false
set_option maxRecDepth 100000
open PySem PySem.W PyProof.Rows
set_option maxHeartbeats 0 in
theorem PySem.Challenge.cw_swinglogic_k26_whole_ideals_within_ideal_holds : PySem.Challenge.rw_swinglogic_k26_whole_ideals_within_ideal.Holds := by
  w_on; o_law; k_head; (case hw => w_witness2)
  k_fill
  refine SWL.walk_ofG (l := PySem.Challenge.rw_swinglogic_k26_whole_ideals_within_ideal) (n := 63) (k := 9) (x := "script") rfl (by decide) rfl ⟨rfl, by decide, by decide⟩ (fun w h Y => PySem.W.km_in_of Y) ?F
  case F =>
    intro w mg fa h loose mean mb T Y KX G hmg
    refine' SWL.all_mk KX G T hmg ?hrec ?a0 ?l0 ?c0 ?k0 ?a1 ?l1 ?c1 ?k1 ?a2 ?l2 ?c2 ?k2 ?a3 ?l3 ?c3 ?k3 ?a4 ?l4 ?c4 ?k4 ?a5 ?l5 ?c5 ?k5 ?a6 ?l6 ?c6 ?k6 ?a7 ?l7 ?c7 ?k7 ?a8 ?l8 ?c8 ?k8 ?a9 ?l9 ?c9 ?k9 ?a10 ?l10 ?c10 ?k10 ?a11 ?l11 ?c11 ?k11 ?a12 ?l12 ?c12 ?k12 ?a13 ?l13 ?c13 ?k13 ?a14 ?l14 ?c14 ?k14 ?a15 ?l15 ?c15 ?k15 ?a16 ?l16 ?c16 ?k16 ?a17 ?l17 ?c17 ?k17 ?a18 ?l18 ?c18 ?k18 ?a19 ?l19 ?c19 ?k19 ?a20 ?l20 ?c20 ?k20 ?a21 ?l21 ?c21 ?k21 ?a22 ?l22 ?c22 ?k22 ?a23 ?l23 ?c23 ?k23 ?a24 ?l24 ?c24 ?k24 ?a25 ?l25 ?c25 ?k25 ?a26 ?l26 ?c26 ?k26 ?zs ?zl ?zp ?z_isinstance ?z_str ?z_int ?z_list ?z_tuple ?z_dict ?z_len ?z_all ?z_any ?z_zip ?z_sorted ?z_abs ?z_range ?z_min ?z_repr ?z_enumerate ?z_bool ?lT ?vT ?nT ?aS ?bS ?tS2 ?iS ?aN ?xN ?kkN ?bN ?tN ?sN ?gN ?hN ?dN ?ccN ?mN ?aI ?xI ?kkI ?bI ?tI ?sI ?gI ?hI ?dI ?ccI ?mI ?sp0 ?tk0
    (case hrec => first | rfl | kernel_rfl)
    (case a0 => k_is)
    (case l0 => k_is)
    (case c0 => k_is)
    (case k0 => k_is)
    (case a1 => k_is)
    (case l1 => k_is)
    (case c1 => k_is)
    (case k1 => k_is)
    (case a2 => k_is)
    (case l2 => k_is)
    (case c2 => k_is)
    (case k2 => k_is)
    (case a3 => k_is)
    (case l3 => k_is)
    (case c3 => k_is)
    (case k3 => k_is)
    (case a4 => k_is)
    (case l4 => k_is)
    (case c4 => k_is)
    (case k4 => k_is)
    (case a5 => k_is)
    (case l5 => k_is)
    (case c5 => k_is)
    (case k5 => k_is)
    (case a6 => k_is)
    (case l6 => k_is)
    (case c6 => k_is)
    (case k6 => k_is)
    (case a7 => k_is)
    (case l7 => k_is)
    (case c7 => k_is)
    (case k7 => k_is)
    (case a8 => k_is)
    (case l8 => k_is)
    (case c8 => k_is)
    (case k8 => k_is)
    (case a9 => k_is)
    (case l9 => k_is)
    (case c9 => k_is)
    (case k9 => k_is)
    (case a10 => k_is)
    (case l10 => k_is)
    (case c10 => k_is)
    (case k10 => k_is)
    (case a11 => k_is)
    (case l11 => k_is)
    (case c11 => k_is)
    (case k11 => k_is)
    (case a12 => k_is)
    (case l12 => k_is)
    (case c12 => k_is)
    (case k12 => k_is)
    (case a13 => k_is)
    (case l13 => k_is)
    (case c13 => k_is)
    (case k13 => k_is)
    (case a14 => k_is)
    (case l14 => k_is)
    (case c14 => k_is)
    (case k14 => k_is)
    (case a15 => k_is)
    (case l15 => k_is)
    (case c15 => k_is)
    (case k15 => k_is)
    (case a16 => k_is)
    (case l16 => k_is)
    (case c16 => k_is)
    (case k16 => k_is)
    (case a17 => k_is)
    (case l17 => k_is)
    (case c17 => k_is)
    (case k17 => k_is)
    (case a18 => k_is)
    (case l18 => k_is)
    (case c18 => k_is)
    (case k18 => k_is)
    (case a19 => k_is)
    (case l19 => k_is)
    (case c19 => k_is)
    (case k19 => k_is)
    (case a20 => k_is)
    (case l20 => k_is)
    (case c20 => k_is)
    (case k20 => k_is)
    (case a21 => k_is)
    (case l21 => k_is)
    (case c21 => k_is)
    (case k21 => k_is)
    (case a22 => k_is)
    (case l22 => k_is)
    (case c22 => k_is)
    (case k22 => k_is)
    (case a23 => k_is)
    (case l23 => k_is)
    (case c23 => k_is)
    (case k23 => k_is)
    (case a24 => k_is)
    (case l24 => k_is)
    (case c24 => k_is)
    (case k24 => k_is)
    (case a25 => k_is)
    (case l25 => k_is)
    (case c25 => k_is)
    (case k25 => k_is)
    (case a26 => k_is)
    (case l26 => k_is)
    (case c26 => k_is)
    (case k26 => k_is)
    (case zs => k_is)
    (case zl => k_is)
    (case zp => k_is)
    (case z_isinstance => k_is)
    (case z_str => k_is)
    (case z_int => k_is)
    (case z_list => k_is)
    (case z_tuple => k_is)
    (case z_dict => k_is)
    (case z_len => k_is)
    (case z_all => k_is)
    (case z_any => k_is)
    (case z_zip => k_is)
    (case z_sorted => k_is)
    (case z_abs => k_is)
    (case z_range => k_is)
    (case z_min => k_is)
    (case z_repr => k_is)
    (case z_enumerate => k_is)
    (case z_bool => k_is)
    (case lT => k_is)
    (case vT => first | rfl | k_is)
    (case nT => first | kernel_rfl | rfl)
    (case aS => k_is)
    (case bS => k_is)
    (case tS2 => k_is)
    (case iS => k_is)
    (case aN => k_is)
    (case xN => k_exc)
    (case kkN => k_is)
    (case bN => k_is)
    (case tN => k_is)
    (case sN => k_is)
    (case gN => k_is)
    (case hN => k_is)
    (case dN => k_is)
    (case ccN => k_is)
    (case mN => k_is)
    (case aI => k_is)
    (case xI => k_exc)
    (case kkI => k_is)
    (case bI => k_is)
    (case tI => k_is)
    (case sI => k_is)
    (case gI => k_is)
    (case hI => k_is)
    (case dI => k_is)
    (case ccI => k_is)
    (case mI => k_is)
    (case sp0 => k_is)
    (case tk0 => k_is)
