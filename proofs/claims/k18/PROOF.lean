import PyProof.Rows.All
import Wide.All
import OpenK.AllK
import Wide.FinOn
import HandS.ForMost
import HandS.Exc
import HandS.ExcOwn
import HandS.ExcIs
import HandS.IsInst
import HandS.Lambda
import HandS.EndTab
import HandS.SortKw
import HandS.Defaults
import HandS.TupLe
import HandS.WordsExc
import HandS.Wide
import KE.SortKeyHeap
import KE.KDictKeyed
import KE.KDictSum
import KE.GoesNew
import PyProof.ListStr
import HandS.Walk
import HandS.Steps
import HandS.Style
import PySem.Challenge.RW_swinglogic_k18_whole_least_of_words
set_option Elab.async false
set_option linter.all false
set_option maxRecDepth 100000
set_option maxHeartbeats 4000000
namespace SWL
open PySem PySem.Spec PyProof.Rows L2
/-! repr of data, list of a text -/
/-- what repr asks of data: the around has no guard in hand -/
def askRepr (K : PySem.W.Frag) : List V → Hp → VK → Prop := fun xs H Q =>
  ∃ (a : Addr) (d : PyData), xs = [.ref a] ∧ Dp K H (.ref a) d ∧ d.showable = true ∧ d.hasDict = false ∧ d.depth ≤ 50 ∧ d.shown.length ≤ sizeLine ∧ Q (.str d.shown) H
section
variable {X : Cx}
theorem cr_repr (gd : X.A.guards = some []) (hu : X.A.units + 64 < cLine) : CallR X (.builtin "repr") (askRepr X.K) := by
  intro pins s σ H xs us Q I rel q
  obtain ⟨a, d, rfl, hd, hs, hn, hdep, hlen, q⟩ := q
  obtain ⟨u, rfl, ru⟩ := vals1 rel
  obtain ⟨as, rd⟩ := Dp.reads I d _ _ hd ru
  cases ru
  refine repr_of_reads' rd hs (PyData.noDict_hsm hn) gd (by omega) (fun _ _ e => e) (fun h' u' tk hk => ?_) hlen
  exact ⟨.str d.shown, H, I.kept hk, ⟨u', rfl⟩, q⟩
def signsV (z : Str) : List V := z.cps.toList.map fun c => V.str ⟨#[c]⟩
theorem signs_vals (z : Str) : ∀ (l : List Nat) (vs : List Value), vs.length = l.length → (∀ (i : Nat) (v : Value), vs[i]? = some v → ∃ c t, l[i]? = some c ∧ v = .str ⟨#[c]⟩ t) → Vals (l.map fun c => V.str ⟨#[c]⟩) vs
  | [], [], _, _ => .nil
  | [], _ :: _, h, _ => by simp at h
  | _ :: _, [], h, _ => by simp at h
  | c :: l, v :: vs, h, hv => by
    obtain ⟨c', t, h1, h2⟩ := hv 0 v rfl
    have e : c = c' := Option.some.inj h1
    subst e
    exact .cons ⟨t, h2⟩ (signs_vals z l vs (by simpa using h) fun i w hw => hv (i + 1) w hw)
theorem cr_listStr (hc : X.calm = true) : CallR X (.type "list") (fun xs H Q => ∃ z, xs = [.str z] ∧ z.length ≤ sizeLine ∧ ∀ p, H p = none → Q (.ref p) (upd H p (.lst (signsV z)))) := by
  intro pins s σ H xs us Q I rel q
  obtain ⟨z, rfl, hz, q⟩ := q
  obtain ⟨u, rfl, t, rfl⟩ := vals1 rel
  refine call_list_str (I.ok.hd hc) z t (fun h' tk acc' c' hk hget hit => ?_) hz
  have hlen : acc'.toList.length = z.cps.toList.length := by
    rw [Array.length_toList, Array.length_toList]
    exact hit.1
  have hv : Vals (signsV z) acc'.toList := by
    refine signs_vals z _ _ hlen fun i v hv => ?_
    obtain ⟨c, t', h1, h2⟩ := hit.2 i v (by rw [← Array.getElem?_toList]; exact hv)
    exact ⟨c, t', by rw [Array.getElem?_toList]; exact h1, h2⟩
  refine ⟨.ref s.heap.objs.size, _, I.laid (t' := tk) hk (Nat.le_refl _) (show ObjOk X.prog X.w _ h' _ (.lst (signsV z)) from ⟨?_, acc'.toList, c', hv, ?_⟩), rfl, q _ (I.hok.fresh (Nat.le_refl _))⟩
  · unfold signsV
    rw [List.length_map, Array.length_toList]
    exact hz
  · rw [Array.toArray_toList]
    exact hget
end
end SWL
set_option Elab.async false
set_option linter.all false
set_option maxRecDepth 100000
set_option maxHeartbeats 4000000
namespace SWL
open PySem PySem.Spec PyProof.Rows L2
/-! zip of two texts -/
/-- the pairs of two texts' signs, a new tuple each -/
def PairsS (x y : Str) : It :=
  ⟨fun i _ => i < min x.cps.size y.cps.size,
    fun i H v H' => ∃ (T : Addr) (c d : Nat), v = .ref T ∧ H T = none ∧ H' = upd H T (.tup [.str ⟨#[c]⟩, .str ⟨#[d]⟩]) ∧ x.cps[i]? = some c ∧ y.cps[i]? = some d,
    fun i _ => i = min x.cps.size y.cps.size⟩
theorem turnZipS {P : Program} {w : World} {K : PySem.W.Frag} {elts : List Expr} {kk : Nat} {tp : Pos} {N : Addr} (x y : Str) (t u : Tok) :
    Turn P w K (.Tuple elts kk tp) (PairsS x y) [N + 4, N + 2, N + 3, N, N + 1] (N + 4)
      (fun i h => IsZip h (N + 4) (N + 2) (N + 3) .none ∧ IsTupOf2 h (N + 2) (.ref N) (.ref (N + 1)) ∧ (∃ a b, IsTupOf2 h (N + 3) a b) ∧ h.IsStrIter N (strIterType x) x t i ∧ h.IsStrIter (N + 1) (strIterType y) y u i) where
  mem := by simp
  obj := fun i h st b hb => by
    obtain ⟨z1, z2, ⟨_, _, z3⟩, ⟨o4, z4, _, d4⟩, ⟨o5, z5, _, d5⟩⟩ := st
    rcases (by simpa using hb : b = N + 4 ∨ b = N + 2 ∨ b = N + 3 ∨ b = N ∨ b = N + 1) with e | e | e | e | e
    · exact ⟨_, by rw [e]; exact z1, fun v q => by cases q⟩
    · exact ⟨_, by rw [e]; exact z2, fun v q => by cases q⟩
    · exact ⟨_, by rw [e]; exact z3, fun v q => by cases q⟩
    · exact ⟨o4, by rw [e]; exact z4, fun v q => by rw [d4] at q; cases q⟩
    · exact ⟨o5, by rw [e]; exact z5, fun v q => by rw [d5] at q; cases q⟩
  keep := fun i h h' st hk => by
    obtain ⟨z1, z2, ⟨a, b, z3⟩, z4, z5⟩ := st
    exact ⟨hk _ (by simp) _ z1, hk _ (by simp) _ z2, ⟨a, b, hk _ (by simp) _ z3⟩, let ⟨o, e, r⟩ := z4; ⟨o, hk _ (by simp) o e, r⟩, let ⟨o, e, r⟩ := z5; ⟨o, hk _ (by simp) o e, r⟩⟩
  item := by
    intro X hP hw hK hc i pins s σ H E I hf st hg
    subst hP hw hK
    have hh : X.A.handled = none := I.ok.hd hc
    have D1 := Draws.text (prog := X.prog) (w := X.w) (A := X.A.in1) hh N x t
    have D2 := Draws.text (prog := X.prog) (w := X.w) (A := X.A.in1) hh (N + 1) y u
    have S : ZipSep2 (N + 4) (N + 2) (N + 3) N (N + 1) [N] [N + 1] := zip_sep2 (fp1 := []) (fp2 := []) (fun _ h => nomatch h) (fun _ h => nomatch h)
    have G := GoesN.zip2 (elts := elts) (x1 := kk) (pos := tp) S D1 D2
    refine G.goes i s _ E hg st fun v h' tk hY st' hk _ => ?_
    obtain ⟨T, a, b, rfl, hT, ⟨c, t1, hc1, rfl⟩, ⟨d, t2, hd1, rfl⟩, hTup⟩ := hY
    have fr : H T = none := I.hok.fresh hT
    refine ⟨.ref T, upd H T (.tup [.str ⟨#[c]⟩, .str ⟨#[d]⟩]), I.turnedNew (t' := tk) (ch := [N + 4, N + 3, N, N + 1]) hk (fun b hb => hf b ?_) hT ?_, rfl, ⟨T, c, d, rfl, fr, rfl, hc1, hd1⟩, st', fun b hb => ?_⟩
    · rcases (by simpa using hb : b = N + 4 ∨ b = N + 3 ∨ b = N ∨ b = N + 1) with e | e | e | e <;> simp [e]
    · exact ⟨by show 2 ≤ sizeLine; decide, _, .cons ⟨_, rfl⟩ (.cons ⟨_, rfl⟩ .nil), hTup⟩
    · have hlt : b < s.heap.objs.size := by
        obtain ⟨z1, z2, ⟨_, _, z3⟩, ⟨o4, z4, _⟩, ⟨o5, z5, _⟩⟩ := st
        rcases (by simpa using hb : b = N + 4 ∨ b = N + 2 ∨ b = N + 3 ∨ b = N ∨ b = N + 1) with e | e | e | e | e
        · rw [e]; exact Heap.lt_size z1
        · rw [e]; exact Heap.lt_size z2
        · rw [e]; exact Heap.lt_size z3
        · rw [e]; exact Heap.lt_size z4
        · rw [e]; exact Heap.lt_size z5
      rw [upd_ne (Nat.ne_of_lt (Nat.lt_of_lt_of_le hlt hT))]
      exact (hf b hb).1
  done := by
    intro X hP hw hK hc i pins s σ H E I hf st hg
    subst hP hw hK
    have hh : X.A.handled = none := I.ok.hd hc
    have D1 := Draws.text (prog := X.prog) (w := X.w) (A := X.A.in1) hh N x t
    have D2 := Draws.text (prog := X.prog) (w := X.w) (A := X.A.in1) hh (N + 1) y u
    have S : ZipSep2 (N + 4) (N + 2) (N + 3) N (N + 1) [N] [N + 1] := zip_sep2 (fp1 := []) (fp2 := []) (fun _ h => nomatch h) (fun _ h => nomatch h)
    have G := GoesN.zip2 (elts := elts) (x1 := kk) (pos := tp) S D1 D2
    have hi : i = min x.cps.size y.cps.size := hg
    rw [hi] at st
    refine G.stops s _ E st fun h' tk hk _ => ?_
    refine I.turnedL (t' := tk) (ch := [N + 4, N + 3, N, N + 1]) hk fun b hb => hf b ?_
    rcases (by simpa using hb : b = N + 4 ∨ b = N + 3 ∨ b = N ∨ b = N + 1) with e | e | e | e <;> simp [e]
  self := fun A i s Q E st h => wpAny_pyIter_zip st.1 h
def iZipS (ta : TA) : TI := fun σ H R => ta σ H fun vs H1 => ∃ x y, vs = [.str x, .str y] ∧ R (PairsS x y) H1
theorem pi_zipS {X : Cx} {e e2 : Expr} {ta : TA} {p pos tpos : Pos} {elts : List Expr} {kk : Nat} (hg : Gl X "zip") (hm : X.mg "zip" = none) (ha : PA X [e, e2] ta)
    (hs : starEach [e, e2] X.env = (false, eval e X.env) :: starEach [e2] X.env := by rfl) (hpl : (backTo pos (starEach [e2] X.env)).any (·.1) = false := by rfl) :
    PI X (.Tuple elts kk tpos) (.Call (.Name "zip" p) [e, e2] [] pos) (iZipS ta) := by
  refine ⟨fun pins s σ H R I h => Call_ (ld_blt I hg hm boot_zip (callWith_type1 (thn (ha.run pos pins s σ H _ I h) fun us s1 q => ?_) hs hpl))⟩
  obtain ⟨vs, H1, I1, rel, x, y, rfl, q⟩ := q
  obtain ⟨u1, u2, rfl, ⟨t1, rfl⟩, ⟨t2, rfl⟩⟩ := vals2 rel
  refine zip_begins2 (begins_text x t1) (begins_text y t2) trivial trivial fun h' z1 z2 z3 z4 z5 hsz hk => wpAny_pyIter_zip z1 ?_
  refine ⟨_, _, _, _, H1, rfl, I1.kept (t' := s1.toks) hk, turnZipS (N := s1.heap.objs.size) x y t1 t2, ⟨z1, z2, ⟨_, _, z3⟩, ⟨_, z4, rfl, rfl⟩, ⟨_, z5, rfl, rfl⟩⟩, fun b hb => ?_, q⟩
  have hle : s1.heap.objs.size ≤ b := by
    rcases (by simpa using hb : b = s1.heap.objs.size + 4 ∨ b = s1.heap.objs.size + 2 ∨ b = s1.heap.objs.size + 3 ∨ b = s1.heap.objs.size ∨ b = s1.heap.objs.size + 1) with e | e | e | e | e <;> rw [e] <;> first | exact Nat.le_add_right _ _ | exact Nat.le_refl _
  exact I1.fpOk hle (I1.hok.fresh hle)
end SWL
set_option Elab.async false
set_option linter.all false
set_option maxRecDepth 100000
set_option maxHeartbeats 4000000
namespace SWL
open PySem PySem.Spec PyProof.Rows L2
/-! an object that nobody tracked is tracked from now on; data under growth; sorted by data -/
def Grows (H H' : Hp) : Prop := ∀ b o, H b = some o → H' b = some o
theorem Grows.refl (H : Hp) : Grows H H := fun _ _ h => h
theorem Grows.trans {H H1 H2 : Hp} (a : Grows H H1) (b : Grows H1 H2) : Grows H H2 := fun c o h => b c o (a c o h)
theorem Grows.new {H : Hp} {p : Addr} {o : HO} (h : H p = none) : Grows H (upd H p o) := fun b u e => by
  rw [upd_ne (ne_of_none e h)]
  exact e
theorem Grows.rd {H H' : Hp} (g : Grows H H') {a : Addr} {u : HO} (r : Rd H a u) : Rd H' a u := by
  rcases r with r | ⟨o, r⟩
  · exact .inl (g _ _ r)
  · exact .inr ⟨o, g _ _ r⟩
theorem Grows.l {K : PySem.W.Frag} {H H' : Hp} (g : Grows H H') {a : Addr} {xs : List V} (h : SqL K H a xs) : SqL K H' a xs := h.imp g.rd id
theorem Grows.t {K : PySem.W.Frag} {H H' : Hp} (g : Grows H H') {a : Addr} {xs : List V} (h : SqT K H a xs) : SqT K H' a xs := h.imp g.rd id
mutual
theorem Grows.dp {K : PySem.W.Frag} {H H' : Hp} (g : Grows H H') : ∀ (d : PyData) (v : V), Dp K H v d → Dp K H' v d
  | .none, _, h => by cases h; exact .non
  | .bool _, _, h => by cases h; exact .bl _
  | .int _, _, h => by cases h; exact .int _
  | .str _, _, h => by cases h; exact .str _
  | .list ds, _, h => by
    cases h with
    | lst h1 h2 => exact .lst (g.l h1) (Grows.dps g ds _ h2)
  | .tuple ds, _, h => by
    cases h with
    | tup h1 h2 => exact .tup (g.t h1) (Grows.dps g ds _ h2)
  | .dict _, _, h => by cases h
theorem Grows.dps {K : PySem.W.Frag} {H H' : Hp} (g : Grows H H') : ∀ (ds : List PyData) (vs : List V), DpAll K H vs ds → DpAll K H' vs ds
  | [], _, h => by cases h; exact .nil
  | d :: ds, _, h => by
    cases h with
    | cons h1 h2 => exact .cons (Grows.dp g d _ h1) (Grows.dps g ds _ h2)
end
section
variable {X : Cx} {pins : List (Addr × Obj)} {σ : L2.St} {H : Hp} {s : Shared}
theorem track {a : Addr} {o : HO} (I : Inv X pins σ H s) (f : FpOk X pins H a) (h0 : X.s_0.heap.objs.size ≤ a) (new : ObjOk X.prog X.w (upd H a o) s.heap a o) : Inv X pins σ (upd H a o) s := by
  obtain ⟨hn, hL, _, _, hc, hp⟩ := f
  have ne : ∀ b u, H b = some u → b ≠ a := fun b u e => ne_of_none e hn
  refine ⟨I.ok, I.os, I.bare, ⟨I.base.keep, I.base.slot, fun b u e n hx => ?_, I.base.there, fun b xs e => ?_, fun b u xs e => ?_, fun b ps e => ?_⟩, I.loc, I.cell, ?_, fun x c e => ?_, fun p hq => ?_, fun b u e => ?_, I.len⟩
  · rw [upd_ne (Nat.ne_of_lt (Nat.lt_of_lt_of_le (Heap.lt_size e) h0))]
    exact I.base.free b u e n hx
  · have q := I.base.tups b xs e
    rw [upd_ne (ne _ _ q)]
    exact q
  · have q := I.base.frzs b u xs e
    rw [upd_ne (ne _ _ q)]
    exact q
  · obtain ⟨m, q⟩ := I.base.tbls b ps e
    exact ⟨m, by rw [upd_ne (ne _ _ q)]; exact q⟩
  · rw [upd_ne hL.symm]
    exact I.free
  · rw [upd_ne (hc x c e)]
    exact I.freeC x c e
  · obtain ⟨q1, q2, q3⟩ := I.pin p hq
    exact ⟨q1, by rw [upd_ne (hp p hq)]; exact q2, q3⟩
  · by_cases hb : b = a
    · subst hb
      rw [upd_same] at e
      cases e
      exact new
    · rw [upd_ne hb] at e
      refine (I.hok b u e).stay (fun c v _ q => q) (fun c q => ?_) fun c xs q => ?_
      · rw [upd_ne (ne _ _ q)]
        exact q
      · rw [upd_ne (ne _ _ q)]
        exact q
/-- a place that is new to the state s is no frame's -/
theorem noFrame (I : Inv X pins σ H s) {b : Addr} (h : s.heap.objs.size ≤ b) : b ∉ frs X.stack := fun z => by
  rcases List.mem_cons.mp (I.stkSub b z) with e | e
  · have q := I.lt
    rw [← e] at q
    exact Nat.lt_irrefl _ (Nat.lt_of_lt_of_le q h)
  · exact I.nofs h e
theorem each_vals : ∀ {xs : List V} {us : List Value}, PySem.W.EachIs (fun u x => RelV x u) us xs → Vals xs us
  | _, _, .nil => .nil
  | _, _, .cons h t => .cons h (each_vals t)
theorem vals_each : ∀ {xs : List V} {us : List Value}, Vals xs us → PySem.W.EachIs (fun u x => RelV x u) us xs
  | _, _, .nil => .nil
  | _, _, .cons h t => .cons h (vals_each t)
end
/-- sorted(xs): the items read as data by k; what comes is THE sorted list -/
def askSorted (K : PySem.W.Frag) : List V → Hp → VK → Prop := fun xs H Q => ∃ (a : Addr) (items : List V) (k : V → PyData), xs = [.ref a] ∧ SqL K H a items ∧ (∀ x ∈ items, Dp K H x (k x)) ∧
  PySem.W.AllAlike (items.map k) ∧ PySem.W.Sortable (items.map k) ∧ (∀ x ∈ items, (k x).depth ≤ 50) ∧ ∀ p, H p = none → Q (.ref p) (upd H p (.lst (items.mergeSort (PySem.W.dataLe false k))))
theorem each_reads {X : Cx} {pins : List (Addr × Obj)} {σ : L2.St} {H : Hp} {s : Shared} (I : Inv X pins σ H s) (k : V → PyData) : ∀ {xs : List V} {us : List Value}, Vals xs us → (∀ x ∈ xs, Dp X.K H x (k x)) → PySem.W.EachIs (fun v x => ∃ as, Reads s.heap v (k x) as) us xs
  | _, _, .nil, _ => .nil
  | _, _, .cons h t, hd => .cons (Dp.reads I _ _ _ (hd _ List.mem_cons_self) h) (each_reads I k t fun x hx => hd x (List.mem_cons_of_mem _ hx))
section
variable {X : Cx}
theorem cr_sorted (hu : X.A.units + 64 < cLine) : CallR X (.builtin "sorted") (askSorted X.K) := by
  intro pins s σ H xs us Q I rel q
  obtain ⟨a, items, k, rfl, hs, hd, hal, hk, hdep, q⟩ := q
  obtain ⟨u, rfl, ru⟩ := vals1 rel
  cases ru
  obtain ⟨its, rv, hl, hz⟩ := I.list hs
  refine PySem.W.sorted_data (vs := its) (R := fun u x => RelV x u) (enc := k) (bs := items) hl.isList (vals_each rv) (each_reads I k rv hd) hal hk hz (fun x hx => ?_) fun out hlen ho => ?_
  · have := hdep x hx
    omega
  · obtain ⟨c, hc⟩ := sortedAll_at s.heap its out.toArray
    have hlen2 : (items.mergeSort (PySem.W.dataLe false k)).length ≤ sizeLine := by
      rw [List.length_mergeSort]
      exact hz
    exact ⟨.ref _, _, I.laid (t' := s.toks) (fun _ _ => sortedAll_old) (Nat.le_succ _) (show ObjOk X.prog X.w _ _ _ (.lst (items.mergeSort (PySem.W.dataLe false k))) from ⟨hlen2, out, c, each_vals ho, hc⟩), rfl, q _ (I.hok.fresh (Nat.le_succ _))⟩
end
end SWL
set_option Elab.async false
set_option linter.all false
set_option maxRecDepth 100000
set_option maxHeartbeats 4000000
namespace SWL
open PySem PySem.Spec PyProof.Rows L2 Calls
section
variable {prog : Program} {w : World} {A : Around} {s : Shared} {E : Value → Shared → Prop}
/-- sorted(xs, ..), xs a list or a tuple, is list.sort(..) of a new list -/
theorem collect_seq {T : String} (hT : T = "list" ∨ T = "tuple") {l : Addr} {vs : List Value} {o : Obj} {n : Nat} {Q : List Value → Shared → Prop} (ho : s.heap.get? l = some o) (hc : o.cls = .type T) (hd : o.data = .seq vs.toArray n)
    (hsz : vs.length ≤ sizeLine) (h : Q vs { s with heap := (s.heap.push (seqObj "list" #[] 0)).update s.heap.objs.size (Obj.mapSeq (· ++ vs.toArray)) }) : wpAny (model prog w) A (collect (.ref l)) Q E s := by
  have hnew : ∀ {h : Heap}, (h.push (seqObj "list" #[] 0)).get? h.objs.size = some (seqObj "list" #[] 0) := fun {h} => Heap.get?_push_size _ rfl
  have hold : (s.heap.push (seqObj "list" #[] 0)).get? l = some o := Heap.get?_push_of_some _ ho
  unfold collect
  refine wpAny_bind (wpAny_runValue (codeAny_builtin entry_proto_collect' (wpAny_bind (wpAny_newList (wpAny_pure ⟨Code.quiet_builtin _ (by decide +kernel), codeAny_builtin entry_list_iadd' ?_⟩)))))
  show wpAny _ _ (Builtin.List.listExtendWith (.ref s.heap.objs.size) (.ref l) (.ref s.heap.objs.size)) _ _ { s with heap := s.heap.push (seqObj "list" #[] 0) }
  unfold Builtin.List.listExtendWith
  refine wpAny_bind (wpAny_typeOf (T := T) ⟨o, hold, hc⟩ ?_)
  rw [if_pos (by rcases hT with e | e <;> subst e <;> first | rfl | decide | simp)]
  refine wpAny_bind (listItems_at hold hd (wpAny_bind (listItems_at (xs := #[]) (n := 0) hnew rfl ?_)))
  rw [if_neg (by simp)]
  refine wpAny_bind (listUpdate_at (xs := #[]) (n := 0) hnew rfl (wpAny_pure ?_) (Nat.zero_le _) (by show (#[] ++ vs.toArray).size ≤ sizeLine + 1; simp only [Array.size_append, List.size_toArray, List.length_nil]; omega))
  refine wpAny_bind (wpAny_load (get?_update_seq hnew _) ?_)
  have e : ((#[] : Array Value) ++ vs.toArray).toList = vs := by simp
  show wpAny _ _ (pure ((#[] : Array Value) ++ vs.toArray).toList) Q E _
  rw [e]
  exact wpAny_pure h
theorem sorted_of_seq {T : String} (hT : T = "list" ∨ T = "tuple") {l : Addr} {vs : List Value} {o : Obj} {n : Nat} {kw : List (Str × Value)} {Q : Value → Shared → Prop} (ho : s.heap.get? l = some o) (hc : o.cls = .type T) (hd : o.data = .seq vs.toArray n)
    (hL : vs.length ≤ sizeLine) (ha1 : argsOk "sorted" ⟨[.ref l], kw⟩) (ha2 : ∀ x, argsOk "list.sort" ⟨[.ref x], kw⟩)
    (body : ∀ E' : Value → Shared → Prop, wpAny (model prog w) A.in1.in1 (Builtin.«list.sort» ⟨[.ref (s.heap.objs.size + 1)], kw⟩) (fun f s' => f = .done (.ret .none) ∧ Q (.ref (s.heap.objs.size + 1)) s') E' { s with heap := PySem.W.copyHeap s.heap vs }) :
    wpAny (model prog w) A (call (.builtin "sorted") [.ref l] kw) Q E s := by
  refine call_function_entry_kw kind_sorted plain_sorted entry_sorted ha1 ?_
  unfold Builtin.«sorted»
  refine wpAny_bind (m := checkCount "sorted" 1 1 _) (wpAny_pure (wpAny_bind (collect_seq hT ho hc hd hL (wpAny_bind (wpAny_newList ?_ hL)))))
  have hs : ((s.heap.push (seqObj "list" #[] 0)).update s.heap.objs.size (Obj.mapSeq (· ++ vs.toArray))).objs.size = s.heap.objs.size + 1 := (Heap.size_update ..).trans (size_push' ..)
  show wpAny _ _ _ _ _ { s with heap := PySem.W.copyHeap s.heap vs }
  rw [hs]
  refine wpAny_bind (wpAny_holding (wpAny_call_entry_kw slot_list_sort ⟨_, PySem.W.copyHeap_at s.heap vs, rfl⟩ entry_list_sort ?_ (ha2 _)))
  refine wpAny_mono (body _) (fun f s' hf => ?_) fun _ _ e => e
  obtain ⟨rfl, hq⟩ := hf
  exact ⟨_, rfl, wpAny_pure ⟨_, rfl, hq⟩⟩
end
/-- a list or a tuple of xs -/
def Sq (K : PySem.W.Frag) (H : Hp) (a : Addr) (xs : List V) : Prop := SqL K H a xs ∨ SqT K H a xs
theorem isq {X : Cx} {pins : List (Addr × Obj)} {σ : L2.St} {H : Hp} {s : Shared} {a : Addr} {xs : List V} (I : Inv X pins σ H s) (h : Sq X.K H a xs) : ∃ (vs : List Value) (T : String) (o : Obj) (n : Nat), Vals xs vs ∧ (T = "list" ∨ T = "tuple") ∧ s.heap.get? a = some o ∧ o.cls = .type T ∧ o.data = .seq vs.toArray n ∧ xs.length ≤ sizeLine := by
  rcases h with h | h
  · obtain ⟨its, r, ⟨o, n, e, c, _, d⟩, z⟩ := I.list h
    exact ⟨its, "list", o, n, r, .inl rfl, e, c, d, z⟩
  · obtain ⟨its, r, ⟨o, e, c, n, d⟩, z⟩ := I.tuple h
    exact ⟨its, "tuple", o, n, r, .inr rfl, e, c, d, z⟩
theorem Grows.sq {K : PySem.W.Frag} {H H' : Hp} (g : Grows H H') {a : Addr} {xs : List V} (h : Sq K H a xs) : Sq K H' a xs := h.imp g.l g.t
end SWL
set_option Elab.async false
set_option linter.all false
set_option maxRecDepth 100000
set_option maxHeartbeats 4000000
namespace SWL
open PySem PySem.Spec PyProof.Rows L2
/-! sorted(xs, key=f), f a def of the text that raises nothing -/
def askSortedKey (K : PySem.W.Frag) (sp : Sp) (f : Addr) : List V → List V → Hp → VK → Prop := fun xs zs H Q => ∃ (a : Addr) (items : List V) (k : V → PyData), xs = [.ref a] ∧ zs = [.ref f] ∧ Sq K H a items ∧
  (∀ x ∈ items, ∀ H1, Grows H H1 → sp [x] H1 (fun v H2 => Grows H1 H2 ∧ Dp K H2 v (k x)) E0) ∧
  PySem.W.AllAlike (items.map k) ∧ PySem.W.Sortable (items.map k) ∧ (∀ x ∈ items, (k x).depth ≤ 50) ∧ ∀ H1 p, Grows H H1 → H1 p = none → Q (.ref p) (upd H1 p (.lst (items.mergeSort (PySem.W.dataLe false k))))
section
variable {X : Cx} {pins : List (Addr × Obj)} {σ : L2.St} {H : Hp} {s : Shared}
/-- one call from within two built-in calls: what stood untracked and is no frame's stands -/
theorem callIn {k : Nat} {f : Addr} {fd : FuncData} {ps : Str} {sp : Sp} {Q : VK} {x : V} {u : Value} {A : Around} {E : Value → Shared → Prop} {R : Value → Shared → Prop} (F : FnOk X.prog X.w X.K X.mg X.base CX0 k f fd [ps] sp) (hb : Binds X.K fd [ps] []) (hr : Room k A) (hA : A.frames = X.A.frames)
    (I : Inv X pins σ H s) (rx : RelV x u) (h : sp [x] H Q E0)
    (hR : ∀ (v : V) (w : Value) (H' : Hp) (s' : Shared), Inv X pins σ H' s' → RelV v w → Q v H' → (∀ b o, s.heap.get? b = some o → H b = none → b ∉ frs X.stack → s'.heap.get? b = some o ∧ H' b = none) → R w s') :
    wpAny (model X.prog X.w) A (call (.ref f) [u]) R E s := by
  have e1 := I.env0
  have e0 : Env0 X.prog X.w X.K X.mg X.base A X.stack s H := ⟨by rw [hA]; exact e1.frames, e1.mod, e1.bs, e1.bsz, e1.funs, e1.frf, e1.hok, e1.bare⟩
  refine wpAny_call (codeAny_mono (F.run A X.stack s H ⟨[u], []⟩ [u] [x] Q E0 hr e0 (hb s [u] I.kIn rfl) (.cons rx .nil) h) fun r s' hq => ?_)
  cases r with
  | error e => exact False.elim hq
  | ok fl =>
    cases fl with
    | next => exact False.elim hq
    | brk => exact False.elim hq
    | cont => exact False.elim hq
    | ret w =>
      obtain ⟨v, H', os, bare, un, hok, rv, q⟩ := hq
      obtain ⟨v2, H2, J, rv2, e1, e2⟩ := I.after (Q := fun v2 H2 => v2 = v ∧ H2 = H') ⟨v, H', os, bare, un, hok, rv, rfl, rfl⟩
      subst e1 e2
      exact hR _ _ _ _ J rv q fun b o e n nf => ⟨un.keep b o e n nf (by simp), un.free b o e n (by simp)⟩
theorem each_dp {K : PySem.W.Frag} {k : V → PyData} {H H' : Hp} (g : Grows H H') {us : List Value} {xs : List V} (h : PySem.W.EachIs (fun v x => ∃ y, RelV y v ∧ Dp K H y (k x)) us xs) : PySem.W.EachIs (fun v x => ∃ y, RelV y v ∧ Dp K H' y (k x)) us xs :=
  h.mono fun v x ⟨y, r, d⟩ => ⟨y, r, g.dp _ _ d⟩
theorem each_last {α β : Type} {R : α → β → Prop} {a : α} {b : β} (h : R a b) : ∀ {as : List α} {bs : List β}, PySem.W.EachIs R as bs → PySem.W.EachIs R (as ++ [a]) (bs ++ [b])
  | _, _, .nil => .cons h .nil
  | _, _, .cons q t => .cons q (each_last h t)
theorem crk_sortedKey {k : Nat} {f : Addr} {fd : FuncData} {ps : Str} {sp : Sp} (F : FnOk X.prog X.w X.K X.mg X.base CX0 k f fd [ps] sp) (hb : Binds X.K fd [ps] []) (hr : Room (k + 2) X.A) : CallRK X (.builtin "sorted") [Str.ofString "key"] (askSortedKey X.K sp f) := by
  intro pins s σ H xs zs us ws Q I rel relz q
  obtain ⟨a0, items, kf, rfl, rfl, hs, hsp, hal, hk, hdep, q⟩ := q
  obtain ⟨u, rfl, ru⟩ := vals1 rel
  obtain ⟨wf, rfl, rw_⟩ := vals1 relz
  cases ru
  cases rw_
  obtain ⟨vs, T, o, n, rv, hT, hget, hcl, hdt, hz⟩ := isq I hs
  have hvl : vs.length = items.length := rv.length.symm
  have hzv : vs.length ≤ sizeLine := by rw [hvl]; exact hz
  have hunits : X.A.units + 16 * (k + 2) + 200 < cLine := hr.un
  show wpAny _ _ (call (.builtin "sorted") [.ref a0] [(Str.ofString "key", .ref f)]) _ _ _
  refine sorted_of_seq hT hget hcl hdt hzv (ksk_s1 _ _) (fun _ => ksk_l1 _ _) fun E' => ?_
  rw [ksk_t1]
  generalize hA : s.heap.objs.size + 1 = a
  have I0 : Inv X pins σ H { s with heap := PySem.W.copyHeap s.heap vs } := I.kept (t' := s.toks) fun b o e => PySem.W.copyHeap_old e
  have ha : (PySem.W.copyHeap s.heap vs).get? a = some (seqObj "list" vs.toArray 0) := by rw [← hA]; exact PySem.W.copyHeap_at s.heap vs
  obtain ⟨e1, ha1⟩ : ∃ e1, ((PySem.W.copyHeap s.heap vs).update a (Obj.mapSeq fun _ => (#[] : Array Value))).get? a = some (seqObj "list" #[] e1) := ⟨_, get?_update_seq ha fun _ => #[]⟩
  have szS : s.heap.objs.size ≤ a := by rw [← hA]; exact Nat.le_succ _
  unfold ksk_tree
  refine wpAny_bind (listItems_at ha rfl ?_)
  refine wpAny_bind (listUpdate_at ha rfl ?_ (by rw [List.size_toArray]; exact hzv) (Nat.zero_le _))
  refine wpAny_bind (seqEpoch_at ha1 rfl ?_)
  refine wpAny_bind (wpAny_newTuple ?_ (by show vs.length ≤ _; exact hzv))
  refine wpAny_bind (wpAny_newList ?_ (Nat.zero_le _))
  refine wpAny_holding ?_
  generalize hh3 : (((PySem.W.copyHeap s.heap vs).update a (Obj.mapSeq fun _ => (#[] : Array Value))).push (seqObj "tuple" vs.toArray 0)) = h2
  generalize hkS : h2.objs.size = kS
  have keep : ∀ b o, s.heap.get? b = some o → (h2.push (seqObj "list" #[] 0)).get? b = some o := fun b o e => by
    have q := PySem.W.sorting_copy_old (vs := vs) e
    unfold PySem.W.sortingHeap at q
    rw [hA, hh3] at q
    exact q
  have hkS3 : (h2.push (seqObj "list" #[] 0)).get? kS = some (seqObj "list" #[] 0) := by rw [← hkS]; exact Heap.get?_push_size _ rfl
  have ha3 : (h2.push (seqObj "list" #[] 0)).get? a = some (seqObj "list" #[] e1) := by
    refine Heap.get?_push_of_some _ ?_
    rw [← hh3]
    exact Heap.get?_push_of_some _ ha1
  have hkSa : a < kS := by
    rw [← hkS, ← hh3, size_push', Heap.size_update]
    exact Nat.lt_succ_of_lt (Heap.lt_size ha)
  have szK : s.heap.objs.size ≤ kS := Nat.le_trans szS (Nat.le_of_lt hkSa)
  have I3 : Inv X pins σ H { s with heap := h2.push (seqObj "list" #[] 0) } := I.kept (t' := s.toks) keep
  have fpK : ∀ {H' : Hp}, H' kS = none → FpOk X pins H' kS := fun n => I.fpOk szK n
  have fpA : ∀ {H' : Hp}, H' a = none → FpOk X pins H' a := fun n => I.fpOk szS n
  have nfK := noFrame I szK
  have nfA := noFrame I szS
  show wpAny _ X.A.in1.in1 (ksk_rest a (.ref f) false vs.toArray e1 (.ref kS)) _ _ _
  unfold ksk_rest
  refine wpAny_bind (wpAny_rule ?_)
  first
    | rw [List.forIn_toArray]
    | (rw [← Array.forIn_toList]; simp only [List.toList_toArray])
  refine wpAny_bind (ksk_fold (fun i s' => ∃ (Hc : Hp) (kA : Array Value) (e : Nat), Inv X pins σ Hc s' ∧ Grows H Hc ∧ s'.heap.get? kS = some (seqObj "list" kA e) ∧ s'.heap.get? a = some (seqObj "list" #[] e1) ∧ Hc kS = none ∧ Hc a = none ∧
    PySem.W.EachIs (fun v x => ∃ y, RelV y v ∧ Dp X.K Hc y (kf x)) kA.toList (items.take i)) vs 0 _ ⟨H, #[], 0, I3, .refl H, hkS3, ha3, I.hok.fresh szK, I.hok.fresh szS, by rw [List.take_zero]; exact .nil⟩ ?step ?done)
  case step =>
    rintro j v s' hx ⟨Hc, kA, e, J, g, nk, na, fk, fa, hE⟩
    simp only [Nat.zero_add] at hE ⊢
    have hj : j < items.length := by
      rw [← hvl]
      exact (List.getElem?_eq_some_iff.mp hx).1
    have hxi : items[j]? = some items[j] := List.getElem?_eq_getElem hj
    obtain ⟨v', hv', rx⟩ := rv.get hxi
    rw [hx] at hv'
    cases hv'
    have hsz : kA.size ≤ vs.length := by
      have h1 := hE.length
      rw [Array.length_toList, List.length_take] at h1
      omega
    refine wpAny_bind (wpAny_attempt ?_)
    refine callIn (A := X.A.in1.in1) F hb ((hr.in1).in1) rfl J rx (hsp _ (List.getElem_mem hj) Hc g) fun y w H' s2 J2 ry hy hkeep => ?_
    obtain ⟨g2, hd⟩ := hy
    obtain ⟨nk2, fk2⟩ := hkeep kS _ nk fk nfK
    obtain ⟨na2, fa2⟩ := hkeep a _ na fa nfA
    try dsimp only
    have s1 := Heap.SameBut.update s2.heap kS (Obj.mapSeq (·.push w))
    obtain ⟨c2, hc2⟩ : ∃ c2, (s2.heap.update kS (Obj.mapSeq (·.push w))).get? kS = some (seqObj "list" (kA.push w) c2) := ⟨_, get?_update_seq nk2 (·.push w)⟩
    refine wpAny_bind (listUpdate_at nk2 rfl ?_ (Nat.le_trans hsz hzv) (Nat.le_trans (Nat.le_of_eq (Array.size_push ..)) (Nat.succ_le_succ (Nat.le_trans hsz hzv))))
    have J3 : Inv X pins σ H' { s2 with heap := s2.heap.update kS (Obj.mapSeq (·.push w)) } := by
      obtain ⟨z1, z2, _, z3, z4, z5⟩ := fpK fk2
      exact J2.turned (t' := s2.toks) (it := kS) (fun b o hb e => (s1.2 b hb).trans e) z1 z2 z3 z4 z5
    refine wpAny_pure ⟨rfl, H', kA.push w, c2, J3, g.trans g2, hc2, (s1.2 a (Nat.ne_of_lt hkSa)).trans na2, fk2, fa2, ?_⟩
    have ek : items.take (j + 1) = items.take j ++ [items[j]] := by rw [List.take_add_one, hxi]; rfl
    rw [ek, Array.toList_push]
    exact each_last ⟨y, ry, hd⟩ (each_dp g2 hE)
  case done =>
    rintro s' ⟨Hc, kA, e, J, g, nk, na, fk, fa, hE⟩
    have et : items.take (0 + vs.length) = items := List.take_of_length_le (by omega)
    rw [et] at hE
    have hsz : kA.size = vs.length := by
      have h1 := hE.length
      rw [Array.length_toList] at h1
      omega
    try dsimp only
    refine wpAny_bind (listItems_at nk rfl ?_)
    have hE2 : PySem.W.EachIs (fun v d => ∃ as, Reads s'.heap v d as) kA.toList (items.map kf) := PySem.W.each_map kf (hE.mono fun v x ⟨y, r, d⟩ => Dp.reads J _ _ _ d r)
    have hkp : PySem.W.KeepsBut a (PySem.W.hideAll s'.heap [kS]) s'.heap := fun b o _ e => PySem.W.of_hideAll _ e
    refine PySem.W.keyH_end (κ := PySem.W.dataKind s'.heap (items.map kf)) (h₁ := PySem.W.hideAll s'.heap [kS]) hkp (PySem.W.hideAll_none _ (by simp)) nk na (Nat.ne_of_gt hkSa)
      (PySem.W.SortsAt.data (s := s') hE2 hal hk (fun d hd => ?_)) hsz hzv fun h3 tk3 c k3 n3 => ⟨rfl, ?_⟩
    · obtain ⟨x, hx, rfl⟩ := List.mem_map.mp hd
      have := hdep x hx
      show X.A.units + 1 + 1 + _ < _
      omega
    · have ko : PySem.W.KeyedOut false (items.map kf) vs (PySem.W.sortVals (PySem.W.dataKind s'.heap (items.map kf)) false kA.toList vs) := ⟨s'.heap, kA.toList, hal, rfl, hE2⟩
      have ho := PySem.W.keyedOut_each kf ko (vals_each rv)
      have J3 : Inv X pins σ Hc { s' with heap := h3, toks := tk3 } := J.turnedL (t' := tk3) (ch := [a, kS]) (fun b o hb e => by
        rw [List.mem_cons, List.mem_singleton, not_or] at hb
        exact k3 b o hb.1 (PySem.W.hideAll_get _ e (by simpa using hb.2))) (fun b hb => by
        rcases (by simpa using hb : b = a ∨ b = kS) with z | z
        · rw [z]; exact fpA fa
        · rw [z]; exact fpK fk)
      have hlen2 : (items.mergeSort (PySem.W.dataLe false kf)).length ≤ sizeLine := by
        rw [List.length_mergeSort]
        exact hz
      exact ⟨.ref a, upd Hc a (.lst (items.mergeSort (PySem.W.dataLe false kf))), track J3 (fpA fa) (Nat.le_trans I.sz szS) ⟨hlen2, _, c, each_vals ho, n3⟩, rfl, q Hc a g fa⟩
end
end SWL
set_option Elab.async false
set_option linter.all false
set_option maxRecDepth 100000
set_option maxHeartbeats 4000000
namespace SWL
open PySem PySem.Spec PyProof.Rows L2
/-! sorted(dict(pairs)), the pairs' keys tuples of numbers and texts -/
def encK : Key → PyData
  | .inl i => .int i
  | .inr z => .str z
def encT (k : List Key) : PyData := .tuple (k.map encK)
def oneMore (acc : List (List Key)) (k : List Key) : List (List Key) := if acc.any (fun z => decide (z = k)) = true then acc else acc ++ [k]
def firsts (ks : List (List Key)) : List (List Key) := ks.foldl oneMore []
theorem atKey_isSome (k : List Key) : ∀ xs : List (List Key × Addr × Value), (atKey xs k).isSome = (xs.map (·.1)).any (fun z => decide (z = k))
  | [] => rfl
  | x :: xs => by
    have ih := atKey_isSome k xs
    unfold atKey at ih ⊢
    by_cases h : x.1 = k
    · simp [h]
    · simp only [List.find?_cons, h, decide_false, List.map_cons, List.any_cons, Bool.false_or]
      exact ih
theorem storedH_keys (xs : List (List Key × Addr × Value)) (k : List Key) (a : Addr) (v : Value) : (storedH xs k a v).map (·.1) = oneMore (xs.map (·.1)) k := by
  unfold storedH oneMore
  rw [atKey_isSome]
  split
  · rw [List.map_map]
    refine List.map_congr_left fun x _ => ?_
    simp only [Function.comp, putAt]
    split <;> rfl
  · rw [List.map_append]
    rfl
theorem storedAll_keys (ps : List (List Key × Addr × Value)) : (storedAllH [] ps).map (·.1) = firsts (ps.map (·.1)) := by
  have gen : ∀ (ps xs : List (List Key × Addr × Value)), (storedAllH xs ps).map (·.1) = (ps.map (·.1)).foldl oneMore (xs.map (·.1)) := by
    intro ps
    induction ps with
    | nil => intro xs; rfl
    | cons p ps ih =>
      intro xs
      show (storedAllH (storedH xs p.1 p.2.1 p.2.2) ps).map (·.1) = _
      rw [ih, storedH_keys]
      rfl
  exact gen ps []
/-- an item of the list: the pair's place, the key's place, the key, the value -/
structure PairIn where
  at_ : Addr
  key_at : Addr
  key : List Key
  val : V
def PairIn.ok (H : Hp) (p : PairIn) : Prop := H p.at_ = some (.tup [.ref p.key_at, p.val]) ∧ H p.key_at = some (.tup (p.key.map kV))
def askSortedDict (K : PySem.W.Frag) : V → Hp → VK → Prop := fun v H Q => ∃ (a : Addr) (ps : List PairIn), v = .ref a ∧ H a = some (.lst (ps.map fun p => .ref p.at_)) ∧ (∀ p ∈ ps, p.ok H) ∧
  PySem.W.AllAlike ((firsts (ps.map (·.key))).map encT) ∧ (∀ p ∈ ps, p.key ≠ []) ∧
  ∀ (out : List (Addr × List Key)), (∀ q ∈ out, H q.1 = some (.tup (q.2.map kV))) → out.map (·.2) = (firsts (ps.map (·.key))).mergeSort (PySem.W.dataLe false encT) → ∀ p, H p = none → Q (.ref p) (upd H p (.lst (out.map fun q => .ref q.1)))
theorem items_of {P : Program} {w : World} : ∀ (ks : List Key) (us : List Value), Vals (ks.map kV) us → ItemsAre (mixKind P w) ks us
  | [], _, h => by cases h; exact .nil
  | k :: ks, _, h => by
    cases h with
    | cons h1 h2 =>
      refine .cons ?_ (items_of ks _ h2)
      cases k with
      | inl i =>
        obtain ⟨t, rfl⟩ := h1
        exact keyIs_int i t
      | inr z =>
        obtain ⟨t, rfl⟩ := h1
        exact keyIs_str z t
theorem vals_of_items {P : Program} {w : World} {h : Heap} : ∀ (ks : List Key) (us : List Value), ItemsAre (mixKind P w) ks us → ReadsAll h us (ks.map encK) []
  | [], _, q => by cases q; exact .nil
  | k :: ks, _, q => by
    cases q with
    | cons h1 h2 =>
      rcases keyIs_shape h1 with ⟨i, t, rfl, rfl⟩ | ⟨z, t, rfl, rfl⟩
      · exact .cons (as := []) (bs := []) (.int i t) (vals_of_items ks _ h2)
      · exact .cons (as := []) (bs := []) (.str z t) (vals_of_items ks _ h2)
end SWL
set_option Elab.async false
set_option linter.all false
set_option maxRecDepth 100000
set_option maxHeartbeats 4000000
namespace SWL
open PySem PySem.Spec PyProof.Rows L2
section
variable {X : Cx} {pins : List (Addr × Obj)} {σ : L2.St} {H : Hp} {s : Shared}
/-- the pairs as the machine has them -/
theorem pairs_there (I : Inv X pins σ H s) : ∀ (ps : List PairIn), (∀ p ∈ ps, p.ok H) → ∃ xs : List (List Key × Addr × Value), xs.length = ps.length ∧
    ∀ (j : Nat) (p : PairIn), ps[j]? = some p → ∃ v, xs[j]? = some (p.key, p.key_at, v) ∧ PairAt s.heap p.at_ (.ref p.key_at) v ∧ IsTupleKey (mixKind X.prog X.w) s.heap p.key p.key_at
  | [], _ => ⟨[], rfl, fun j p h => by simp at h⟩
  | p :: ps, h => by
    obtain ⟨xs, hl, hx⟩ := pairs_there I ps fun q hq => h q (List.mem_cons_of_mem _ hq)
    obtain ⟨h1, h2⟩ := h p List.mem_cons_self
    obtain ⟨_, its, r1, t1⟩ := (show ObjOk X.prog X.w H s.heap p.at_ (.tup [.ref p.key_at, p.val]) from I.hok _ _ h1)
    obtain ⟨_, its2, r2, t2⟩ := (show ObjOk X.prog X.w H s.heap p.key_at (.tup (p.key.map kV)) from I.hok _ _ h2)
    obtain ⟨u1, u2, rfl, rr1, rr2⟩ := vals2 r1
    cases rr1
    refine ⟨(p.key, p.key_at, u2) :: xs, by simp [hl], fun j q hq => ?_⟩
    cases j with
    | zero =>
      have e : p = q := Option.some.inj hq
      subst e
      obtain ⟨o2, g1, g2, n2, g3⟩ := t2
      exact ⟨u2, rfl, .inl t1, ⟨o2, its2.toArray, n2, g1, g2, g3, items_of _ _ r2⟩⟩
    | succ j => exact hx j q hq
theorem tup_reads {P : Program} {w : World} {h : Heap} {k : List Key} {a : Addr} (x : IsTupleKey (mixKind P w) h k a) : Reads h (.ref a) (encT k) [] := by
  obtain ⟨o, its, n, h1, h2, h3, h4⟩ := x
  exact .tuple h1 h2 h3 (vals_of_items _ _ h4)
theorem storedH_mem {xs : List (List Key × Addr × Value)} {k : List Key} {a : Addr} {v : Value} {y : List Key × Addr × Value} (h : y ∈ storedH xs k a v) : (∃ z ∈ xs, z.1 = y.1 ∧ z.2.1 = y.2.1) ∨ (y.1 = k ∧ y.2.1 = a) := by
  unfold storedH at h
  split at h
  · obtain ⟨z, hz, rfl⟩ := List.mem_map.mp h
    refine .inl ⟨z, hz, ?_⟩
    simp only [putAt]
    split <;> exact ⟨rfl, rfl⟩
  · rcases List.mem_append.mp h with q | q
    · exact .inl ⟨y, q, rfl, rfl⟩
    · have e := List.mem_singleton.mp q
      subst e
      exact .inr ⟨rfl, rfl⟩
theorem storedAll_mem : ∀ (ps xs : List (List Key × Addr × Value)) {y : List Key × Addr × Value}, y ∈ storedAllH xs ps → (∃ z ∈ xs, z.1 = y.1 ∧ z.2.1 = y.2.1) ∨ ∃ z ∈ ps, z.1 = y.1 ∧ z.2.1 = y.2.1
  | [], xs, y, h => .inl ⟨y, h, rfl, rfl⟩
  | p :: ps, xs, y, h => by
    rcases storedAll_mem ps (storedH xs p.1 p.2.1 p.2.2) h with ⟨z, hz, e1, e2⟩ | ⟨z, hz, e1, e2⟩
    · rcases storedH_mem hz with ⟨w, hw, f1, f2⟩ | ⟨f1, f2⟩
      · exact .inl ⟨w, hw, f1.trans e1, f2.trans e2⟩
      · exact .inr ⟨p, List.mem_cons_self, f1.symm.trans e1, f2.symm.trans e2⟩
    · exact .inr ⟨z, List.mem_cons_of_mem _ hz, e1, e2⟩
theorem each_toList {xs : List (List Key × Addr × Value)} {acc : Array Value} (hs : acc.size = xs.length) (h : ∀ (i : Nat) (v : Value), acc[i]? = some v → ∃ y, xs[i]? = some y ∧ v = Value.ref y.2.1) : PySem.W.EachIs (fun v (y : List Key × Addr × Value) => v = Value.ref y.2.1) acc.toList xs := by
  refine PySem.W.EachIs.of_zip (by rw [Array.length_toList]; exact hs) fun p hp => ?_
  obtain ⟨i, hi⟩ := List.getElem?_of_mem hp
  rw [List.getElem?_zip_eq_some] at hi
  obtain ⟨y, hy, e⟩ := h i p.1 (by rw [← Array.getElem?_toList]; exact hi.1)
  rw [hi.2] at hy
  cases hy
  exact e
theorem each_refs : ∀ {us : List Value} {ys : List (List Key × Addr × Value)}, PySem.W.EachIs (fun v (y : List Key × Addr × Value) => v = Value.ref y.2.1) us ys → Vals (ys.map fun y => V.ref y.2.1) us
  | _, _, .nil => .nil
  | _, _, .cons h t => by
    subst h
    exact .cons rfl (each_refs t)
/-- sorted(d), d a dict (untracked) whose keys are tuples of the written kinds -/
theorem sorted_dictH {d : Addr} {xs : List (List Key × Addr × Value)} {Q : VK} (hc : X.calm = true) (hu : X.A.units + 64 < cLine) (I : Inv X pins σ H s) (lo : (d == sysModules) = false) (hd : s.heap.DictOfH (tupleKind (mixKind X.prog X.w)) d xs) (hz : xs.length ≤ sizeLine)
    (hal : PySem.W.AllAlike ((xs.map (·.1)).map encT)) (hne : ∀ x ∈ xs, x.1 ≠ [])
    (q : ∀ ys : List (List Key × Addr × Value), ys = xs.mergeSort (PySem.W.dataLe false fun y => encT y.1) → ∀ p, H p = none → Q (.ref p) (upd H p (.lst (ys.map fun y => V.ref y.2.1)))) :
    wpAny (model X.prog X.w) X.A (call (.builtin "sorted") [.ref d]) (EP X pins σ Q) X.xe s := by
  have hh := I.ok.hd hc
  obtain ⟨es, ep, hr, hsz, hent⟩ := hd.raw
  have e0 : es.size ≤ sizeLine := by rw [hsz]; exact hz
  refine Calls.call_function_entry kind_sorted plain_sorted entry_sorted (args_sorted1 _) ?_
  unfold Builtin.«sorted»
  refine wpAny_bind (m := checkCount "sorted" 1 1 _) (wpAny_pure ?_)
  refine wpAny_bind (PySem.W.kdu_collect (A := X.A.in1) (KdlSrc.rawDict lo) hh hr e0 fun h' tk acc hk hacc => ?_)
  have hal2 : acc.size = xs.length := by rw [hacc.1, hsz]
  have hE : PySem.W.EachIs (fun v (y : List Key × Addr × Value) => v = Value.ref y.2.1) acc.toList xs := each_toList hal2 fun i v hv => by
    obtain ⟨hi, e⟩ := hacc.2 i v hv
    obtain ⟨y, hy, e2, _, _⟩ := hent i hi
    exact ⟨y, hy, e.trans e2⟩
  have I1 : Inv X pins σ H { s with heap := h', toks := tk } := I.kept hk
  have hzl : acc.toList.length ≤ sizeLine := by rw [Array.length_toList, hal2]; exact hz
  refine wpAny_bind (wpAny_newList ?_ hzl)
  have hoL : (h'.push (seqObj "list" acc.toList.toArray 0)).get? h'.objs.size = some (seqObj "list" acc.toList.toArray 0) := Heap.get?_push_size _ rfl
  have kp : ∀ b o, s.heap.get? b = some o → (h'.push (seqObj "list" acc.toList.toArray 0)).get? b = some o := fun b o e => Heap.get?_push_of_some _ (hk b o e)
  show wpAny _ _ _ _ _ { s with heap := h'.push (seqObj "list" acc.toList.toArray 0), toks := tk }
  obtain ⟨_, _, _, _, _, _, _, his, _⟩ := id hd
  have hR : PySem.W.EachIs (fun v (y : List Key × Addr × Value) => ∃ as, Reads (h'.push (seqObj "list" acc.toList.toArray 0)) v (encT y.1) as ∧ h'.objs.size ∉ as) acc.toList xs := by
    refine (PySem.W.each_mem hE).mono fun v y ⟨e, hy⟩ => ⟨[], ?_, by simp⟩
    subst e
    exact PyProof.Rows.Reads.keeps kp (tup_reads (his y hy))
  refine wpAny_bind (wpAny_holding ?_)
  refine PySem.W.list_sort_data (s := { s with heap := h'.push (seqObj "list" acc.toList.toArray 0), toks := tk }) (enc := fun y : List Key × Addr × Value => encT y.1) (bs := xs) hoL hE hR (by rw [List.map_map] at hal; exact hal) (.inl fun dd hdd => ?_) hz (fun y _ => ?_) fun out hlen ho => ?_
  · obtain ⟨y, hy, rfl⟩ := List.mem_map.mp hdd
    cases e : y.1 with
    | nil => exact absurd e (hne y hy)
    | cons k r => exact ⟨encK k, r.map encK, rfl⟩
  · have hdep : (encT y.1).depth = 1 := by
      have z : ∀ l : List Key, PyData.depthAll (l.map encK) = 0 := by
        intro l
        induction l with
        | nil => rfl
        | cons k r ih =>
          show PyData.depthAll (encK k :: r.map encK) = 0
          rw [PyData.depthAll, ih]
          cases k <;> rfl
      show PyData.depth (.tuple (y.1.map encK)) = 1
      rw [PyData.depth, z]
    rw [hdep]
    show X.A.units + 1 + 1 + 1 < cLine
    omega
  · obtain ⟨c, hc2⟩ := sortedHeap_at (vs := acc.toList) (out := out.toArray) hoL
    have hv := each_refs ho
    have hlen2 : ((xs.mergeSort (PySem.W.dataLe false fun y => encT y.1)).map fun y => V.ref y.2.1).length ≤ sizeLine := by
      rw [List.length_map, List.length_mergeSort]
      exact hz
    refine wpAny_pure ⟨_, rfl, .ref h'.objs.size, upd H h'.objs.size _, I1.laid (t' := tk) (fun b u e => ?_) (Nat.le_refl _) (show ObjOk X.prog X.w _ _ _ (.lst _) from ⟨hlen2, out, c, hv, hc2⟩), rfl, q _ rfl _ (I1.hok.fresh (Nat.le_refl _))⟩
    have hb : b < h'.objs.size := Heap.lt_size e
    exact (sortedHeap_old (Nat.ne_of_lt hb) (by rw [size_push']; exact Nat.lt_succ_of_lt hb)).trans (Heap.get?_push_of_some _ e)
end
end SWL
set_option Elab.async false
set_option linter.all false
set_option maxRecDepth 100000
set_option maxHeartbeats 4000000
namespace SWL
open PySem PySem.Spec PyProof.Rows L2
section
variable {X : Cx}
theorem vals_refs : ∀ {ps : List PairIn} {us : List Value}, Vals (ps.map fun p => V.ref p.at_) us → us = ps.map fun p => Value.ref p.at_
  | [], _, h => by cases h; rfl
  | p :: ps, _, h => by
    cases h with
    | cons h1 h2 =>
      rw [vals_refs h2]
      cases h1
      rfl
theorem pe_sortedDict {e : Expr} {te : TE} {p1 p2 p3 p4 : Pos} (hc : X.calm = true) (hu : X.A.units + 64 < cLine) (g1 : Gl X "sorted") (m1 : X.mg "sorted" = none) (g2 : Gl X "dict") (m2 : X.mg "dict" = none) (he : PE X e te)
    (hs : starEach [e] X.env = (false, eval e X.env) :: starEach [] X.env := by rfl) :
    PE X (.Call (.Name "sorted" p1) [.Call (.Name "dict" p2) [e] [] p3] [] p4) (fun σ H Q => te σ H fun v H1 => askSortedDict X.K v H1 Q) := by
  refine ⟨fun pins s σ H Q I h => wpAny_Call_Name_kw (ld_blt I g1 m1 (by decide +kernel : bootBuiltins "sorted" = some (.builtin "sorted")) (callWith_builtin1 ?_ rfl rfl))⟩
  show wpAny _ _ (spliced ((false, eval (.Call (.Name "dict" p2) [e] [] p3) X.env) :: backTo p4 (starEach [] X.env))) _ _ s
  let Q' : List V → Hp → Prop := fun vs H1 => match vs with | [v] => askSortedDict X.K v H1 Q | _ => False
  refine Calls.spliced_cons (wpAny_Call_Name_kw (ld_blt I g2 m2 (by decide +kernel : bootBuiltins "dict" = some (.type "dict")) (callWith_type1 (thn ((pa_cons he pa_nil hs).run p3 pins s σ H Q' I h) fun us s1 q => ?_) hs rfl)))
  obtain ⟨vs, H1, I1, rel, q⟩ := q
  obtain ⟨v0, rfl⟩ : ∃ v0, vs = [v0] := by
    cases vs with
    | nil => exact q.elim
    | cons v r => cases r with
      | nil => exact ⟨v, rfl⟩
      | cons _ _ => exact q.elim
  obtain ⟨a, ps, rfl, hl, hok, hal, hne, q⟩ := (show askSortedDict X.K v0 H1 Q from q)
  obtain ⟨u, rfl, ru⟩ := vals1 rel
  cases ru
  obtain ⟨hz0, its, n0, rv, ho⟩ := (show ObjOk X.prog X.w H1 s1.heap a (.lst _) from I1.hok _ _ hl)
  have hz : ps.length ≤ sizeLine := by rw [List.length_map] at hz0; exact hz0
  have eits := vals_refs rv
  obtain ⟨xs, hlen, hx⟩ := pairs_there I1 ps hok
  have hh := I1.ok.hd hc
  have hkeys : xs.map (·.1) = ps.map (·.key) := by
    refine List.ext_getElem? fun j => ?_
    rw [List.getElem?_map, List.getElem?_map]
    cases e : ps[j]? with
    | none =>
      have z : xs[j]? = none := List.getElem?_eq_none_iff.mpr (by rw [hlen]; exact List.getElem?_eq_none_iff.mp e)
      rw [z]
      rfl
    | some p =>
      obtain ⟨v, e2, _⟩ := hx j p e
      rw [e2]
      rfl
  let Ts : Nat → Addr := fun j => ((ps[j]?).map (·.at_)).getD 0
  let psv : List (Value × Value) := xs.map fun x => (Value.ref x.2.1, x.2.2)
  have hpsv : psv.length = ps.length := by rw [List.length_map, hlen]
  have at_j : ∀ (j : Nat) (k v : Value), psv[j]? = some (k, v) → ∃ p, ps[j]? = some p ∧ k = .ref p.key_at ∧ xs[j]? = some (p.key, p.key_at, v) ∧ PairAt s1.heap p.at_ k v := by
    intro j k v e
    rw [List.getElem?_map] at e
    cases e2 : xs[j]? with
    | none => rw [e2] at e; simp at e
    | some x =>
      have hj : j < ps.length := by
        rw [← hlen]
        exact (List.getElem?_eq_some_iff.mp e2).1
      obtain ⟨v', e3, pa, _⟩ := hx j _ (List.getElem?_eq_getElem hj)
      rw [e2] at e e3
      cases e3
      cases e
      exact ⟨_, List.getElem?_eq_getElem hj, rfl, rfl, pa⟩
  have hkt : ∀ x ∈ xs, IsTupleKey (mixKind X.prog X.w) s1.heap x.1 x.2.1 := fun x hxm => by
    obtain ⟨j, hj⟩ := List.getElem?_of_mem hxm
    have hj2 : j < ps.length := by
      rw [← hlen]
      exact (List.getElem?_eq_some_iff.mp hj).1
    obtain ⟨v', e3, _, t⟩ := hx j _ (List.getElem?_eq_getElem hj2)
    rw [hj] at e3
    cases e3
    exact t
  have hH : ∀ x ∈ xs, H1 x.2.1 = some (.tup (x.1.map kV)) := fun x hxm => by
    obtain ⟨j, hj⟩ := List.getElem?_of_mem hxm
    have hj2 : j < ps.length := by
      rw [← hlen]
      exact (List.getElem?_eq_some_iff.mp hj).1
    obtain ⟨v', e3, _, t⟩ := hx j _ (List.getElem?_eq_getElem hj2)
    rw [hj] at e3
    cases e3
    exact (hok _ (List.getElem_mem hj2)).2
  have hls : psv.length ≤ sizeLine := by rw [hpsv]; exact hz
  refine PySem.call_dict_pairsH (A := X.A) (s := s1) (knd := tupleKind (mixKind X.prog X.w)) (ps := xs) (PairArg.list a its.toArray Ts psv) hh ?room ⟨⟨_, _, ho, rfl, rfl, rfl⟩, ?items⟩ ?hc ?hst hls fun h' tk hD hk => ?fin
  case items =>
    refine ⟨?_, fun j k v e => ?_⟩
    · rw [List.size_toArray, eits, List.length_map, hpsv]
    · obtain ⟨p, e1, _, _, pa⟩ := at_j j k v e
      have eT : Ts j = p.at_ := by show ((ps[j]?).map (·.at_)).getD 0 = _; rw [e1]; rfl
      rw [eT]
      refine ⟨?_, pa⟩
      rw [List.getElem?_toArray, eits, List.getElem?_map, e1]
      rfl
  case hc =>
    refine ⟨by rw [hpsv, hlen], fun i key v e => ?_⟩
    obtain ⟨p, e1, ek, e3, pa⟩ := at_j i key v e
    exact ⟨_, _, e3, ek⟩
  case hst =>
    intro h2 hk2 x hxm
    obtain ⟨o, its2, n2, z1, z2, z3, z4⟩ := hkt x hxm
    exact ⟨o, its2, n2, hk2 _ _ (Nat.ne_of_lt (Heap.lt_size z1)) (by simp) z1, z2, z3, z4⟩
  case fin =>
    refine Calls.spliced_nil ?_
    have I2 : Inv X pins σ H1 { s1 with heap := h', toks := tk } := I1.kept fun b o e => hk b o (by simp) e
    have ek := storedAll_keys xs
    rw [hkeys] at ek
    have mem1 : ∀ y ∈ storedAllH [] xs, H1 y.2.1 = some (.tup (y.1.map kV)) := fun y hy => by
      rcases storedAll_mem xs [] hy with ⟨z, hz2, _, _⟩ | ⟨z, hz2, f1, f2⟩
      · simp at hz2
      · rw [← f1, ← f2]
        exact hH z hz2
    have hlen2 : (storedAllH [] xs).length ≤ sizeLine := by
      have := storedAllH_length xs []
      simp at this
      omega
    refine sorted_dictH (X := X) (pins := pins) (σ := σ) (H := H1) (xs := storedAllH [] xs) hc hu I2 (beq_eq_false_iff_ne.mpr (Nat.ne_of_gt I1.big)) hD hlen2 ?_ ?_ fun ys hys p hp => ?_
    · rw [ek]
      exact hal
    · intro y hy
      rcases storedAll_mem xs [] hy with ⟨z, hz2, _, _⟩ | ⟨z, hz2, f1, f2⟩
      · simp at hz2
      · rw [← f1]
        have zk : z.1 ∈ xs.map (·.1) := List.mem_map.mpr ⟨z, hz2, rfl⟩
        rw [hkeys] at zk
        obtain ⟨p, hp, e⟩ := List.mem_map.mp zk
        rw [← e]
        exact hne p hp
    · have e1 : (ys.map fun y => V.ref y.2.1) = ((ys.map fun y => (y.2.1, y.1)).map fun q => V.ref q.1) := by rw [List.map_map]; rfl
      rw [e1]
      refine q (ys.map fun y => (y.2.1, y.1)) (fun z hz2 => ?_) ?_ p hp
      · obtain ⟨y, hy, rfl⟩ := List.mem_map.mp hz2
        rw [hys] at hy
        exact mem1 y ((List.mergeSort_perm _ _).mem_iff.mp hy)
      · rw [List.map_map, ← ek, hys]
        exact PySem.W.sort_maps (fun y : List Key × Addr × Value => y.1) fun _ _ _ _ => rfl
  case room =>
    show X.A.units + 1 + 1 < cLine
    omega
end
end SWL
set_option Elab.async false
set_option linter.all false
set_option maxRecDepth 100000
set_option maxHeartbeats 4000000
namespace SWL
open PySem PySem.Spec PyProof.Rows L2
/-! try: body / except C as n: suite, the exception itself being kept beyond the suite -/
def Kept (cls : Value) (d : Option Addr) (a : Addr) : Heap → Prop := fun h => ∃ oe, h.get? a = some oe ∧ Zc cls d oe ∧ ∃ vs, oe.data = .fields vs
def wKeep (K : PySem.W.Frag) (c : Value) (n i : Nat) (ts : Addr → Value → Option Addr → TS) (D : Ends) : WX := fun cls d σ H =>
  PySem.W.exmOne K cls c = some true ∧ (σ.length = n → ∀ a, H a = none → ts a cls d { nx := fun σ' H' => H' a = none → D.nx (σ'.set i none) (upd H' a (.ext (Kept cls d a))), rt := fun _ _ => False, bk := fun _ _ => False, ct := fun _ _ => False } (σ.set i (some (.ref a))) H)
section
variable {X : Cx} {pins : List (Addr × Obj)} {σ : L2.St} {H : Hp} {s : Shared}
theorem seen {a : Addr} {o : HO} (I : Inv X pins σ H s) (hn : H a = none) (hL : a ≠ X.env.locals) (h0 : a ∉ X.ex → X.s_0.heap.get? a = none) (hc : ∀ x c, X.env.cells.lookup x = some c → c ≠ a) (hp : ∀ p ∈ X.pn ++ pins, p.1 ≠ a)
    (new : ObjOk X.prog X.w (upd H a o) s.heap a o) : Inv X pins σ (upd H a o) s := by
  have ne : ∀ {b u}, H b = some u → b ≠ a := fun e => ne_of_none e hn
  have up : ∀ {b u}, H b = some u → upd H a o b = some u := fun e => by rw [upd_ne (ne e)]; exact e
  refine ⟨I.ok, I.os, I.bare, ⟨I.base.keep, I.base.slot, fun b u e n hx => ?_, I.base.there, fun b xs e => up (I.base.tups b xs e), fun b u xs e => up (I.base.frzs b u xs e), fun b ps e => ?_⟩, I.loc, I.cell, ?_, fun x c e => ?_, fun p hq => ?_, fun b u e => ?_, I.len⟩
  · have nb : b ≠ a := fun z => by rw [z, h0 (z ▸ hx)] at e; cases e
    rw [upd_ne nb]
    exact I.base.free b u e n hx
  · obtain ⟨m, q⟩ := I.base.tbls b ps e
    exact ⟨m, up q⟩
  · rw [upd_ne hL.symm]
    exact I.free
  · rw [upd_ne (hc x c e)]
    exact I.freeC x c e
  · obtain ⟨q1, q2, q3⟩ := I.pin p hq
    exact ⟨q1, by rw [upd_ne (hp p hq)]; exact q2, q3⟩
  · by_cases hb : b = a
    · subst hb
      rw [upd_same] at e
      cases e
      exact new
    · rw [upd_ne hb] at e
      exact (I.hok b u e).stay (fun c v _ q => q) (fun c q => up q) fun c xs q => up q
/-- the pin of the suite, as one of ours -/
theorem mine {a : Addr} {oe : Obj} (I : Inv (X.suite a ((a, oe) :: (X.pn ++ pins))) [] σ H s) (ok : X.Ok) : Inv X ((a, oe) :: pins) σ H s := by
  refine ⟨ok, I.os, I.bare, I.base, I.loc, I.cell, I.free, I.freeC, fun p hp => I.pin p ?_, I.hok, I.len⟩
  show p ∈ ((a, oe) :: (X.pn ++ pins)) ++ []
  rcases List.mem_append.mp hp with h | h
  · simp [h]
  · rcases List.mem_cons.mp h with h | h <;> simp [h]
theorem unpin {q : Addr × Obj} (I : Inv X (q :: pins) σ H s) : Inv X pins σ H s :=
  ⟨I.ok, I.os, I.bare, I.base, I.loc, I.cell, I.free, I.freeC, fun p hp => I.pin p (by rcases List.mem_append.mp hp with h | h <;> simp [h]), I.hok, I.len⟩
end
section
variable {X : Cx} {x n : Str} {c : Value} {i : Nat} {body suite : List Stmt} {b₀ : Stmt} {np pos pos' : Pos} {tb : WX → TS} {ts : Addr → Value → Option Addr → TS}
theorem ps_try_keep (hs : X.stack = X.env :: X.outer) (hf : X.env.frame = some X.env.locals) (hN : X.N.Nodup) (hi : X.N[i]? = some n) (hln : X.env.kindOf n = some .local) (hc : Names X x c)
    (hb : ∀ (W : WX) (pn : List (Addr × Obj)) (xe : Value → Shared → Prop), Takes (X.tr pn xe) W → PassesOwn (model X.prog X.w) X.A X.env xe → PSs (X.tr pn xe) body (tb W))
    (hsu : ∀ (a : Addr) (oe : Obj) (cls : Value) (d : Option Addr) (pn : List (Addr × Obj)), Zc cls d oe → (∃ vs, oe.data = .fields vs) → PSs (X.suite a ((a, oe) :: pn)) (b₀ :: suite) (ts a cls d)) :
    PS X (.Try body [.ExceptHandler (some (.Name x np)) (some n) (b₀ :: suite) pos'] [] [] pos) (fun D σ H => tb (wKeep X.K c X.N.length i ts D) D σ H) := by
  constructor
  intro pins s σ H D I h
  have ok := I.ok
  have hfr : X.A.frames = some (X.env :: X.outer) := ok.frames.trans (congrArg some hs)
  have back : ∀ {f : Flow} {s1 : Shared} {pn xe}, SP (X.tr (X.pn ++ pins) xe) pn D f s1 → SP X pins D f s1 := by
    intro f s1 pn xe q
    cases f with
    | ret u => obtain ⟨v, σ', H', J, z⟩ := q; exact ⟨v, σ', H', J.ofTry ok, z⟩
    | next => obtain ⟨σ', H', J, z⟩ := q; exact ⟨σ', H', J.ofTry ok, z⟩
    | brk => obtain ⟨σ', H', J, z⟩ := q; exact ⟨σ', H', J.ofTry ok, z⟩
    | cont => obtain ⟨σ', H', J, z⟩ := q; exact ⟨σ', H', J.ofTry ok, z⟩
  let hand : Value → Shared → Prop := fun e s₁ => wpAny (model X.prog X.w) X.A (noteFrame e X.env) (fun _ s₂ => wpAny (model X.prog X.w) X.A (setFlight e none) (fun _ s₃ =>
    wpAny (model X.prog X.w) X.A (handleBy e X.env [.ExceptHandler (some (.Name x np)) (some n) (b₀ :: suite) pos']) (SP X pins D) X.xe s₃) X.xe s₂) X.xe s₁
  have take : Takes (X.tr (X.pn ++ pins) hand) (wKeep X.K c X.N.length i ts D) := by
    intro u s' xx
    obtain ⟨a, B, sI, pins', σ', H', cls, d, rfl, J0, nb, up, sky, na, os, ag, hex, hts⟩ := xx
    have J := J0.ofTry ok
    have nb' : ∀ b o, sI.heap.get? b = some o → b ∉ frs (X.env :: X.outer) → B.get? b = some o := fun b o e z => nb b o e (by rw [show (X.tr (X.pn ++ pins) hand).stack = X.env :: X.outer from hs]; exact z)
    have sky' : Sky B (X.env :: X.outer) a (Zc cls d) X.env.locals s'.heap := by
      rw [← hs]
      exact sky
    show wpAny (model X.prog X.w) X.A (noteFrame (.ref a) X.env) _ _ _
    refine Sky.land Zc.steady hfr hf sky' fun h3 fl3 up3 => ?_
    obtain ⟨o3, v3, g3, z3, d3⟩ := fl3.there
    -- the exception's place is no frame's, and new
    have nfr : a ∉ frs (X.env :: X.outer) := fun hm => by
      obtain ⟨_, o', e', q⟩ := fl3.2.2.1.mem hm
      rw [g3] at e'
      cases e'
      exact q _ d3
    have nL : a ≠ X.env.locals := fun z => nfr (List.mem_filterMap.mpr ⟨X.env, List.mem_cons_self, hf.trans (congrArg some z.symm)⟩)
    have nF : a ∉ X.fs := fun hm => by
      obtain ⟨e, he, q⟩ := List.mem_filterMap.mp hm
      exact nfr (List.mem_filterMap.mpr ⟨e, List.mem_cons_of_mem _ he, q⟩)
    have fresh : ∀ o, sI.heap.get? a ≠ some o := fun o e => by
      have q := nb' a o e nfr
      rw [fl3.2.1] at q
      cases q
    have new0 : a ∉ X.ex → X.s_0.heap.get? a = none := by
      intro hx
      cases e : X.s_0.heap.get? a with
      | none => rfl
      | some o =>
        obtain ⟨o', e'⟩ := J.base.there a o e hx
        exact absurd e' (fresh o')
    have newC : ∀ y c, X.env.cells.lookup y = some c → c ≠ a := fun y c e z => by
      obtain ⟨v, oc, q, _⟩ := J.cell y c e
      rw [z] at q
      exact fresh _ q
    have newP : ∀ p ∈ X.pn ++ pins, p.1 ≠ a := fun p hp z => by
      have q := (J.pin p hp).1
      rw [z] at q
      exact fresh _ q
    have J3 : Inv X pins σ' H' { s' with heap := h3 } := J.landed nb fl3.1 (up.trans up3) os ag
    have S3 := J3.suite g3 d3 na nL nF
    refine wpAny_handleBy_cons (codeAny_handlers_test ?_) (by intro q; cases q)
    have LM := PySem.W.exm_one (M := model X.prog X.w) (J3.kIn) (show PySem.W.Looks (model X.prog X.w) h3 (typeOf (.ref a)) cls from fun A Q E s k q => wpAny_typeOf_ref (k _ _ g3) (by rw [z3.1]; exact q)) hex
    have test : ∀ {Q : Value → Shared → Prop} {E : Value → Shared → Prop}, Q c { s' with heap := h3 } → wpAny (model X.prog X.w) (X.A.mark (some (.ref a))) (eval (.Name x np) X.env) Q E { s' with heap := h3 } := by
      intro Q E q
      obtain ⟨hg, hdbg, hm | ⟨hm, hv, hnn⟩⟩ := hc
      · exact ld_glob (X := X.suite a ((a, o3) :: (X.pn ++ pins))) S3 hg hm q hdbg
      · exact ld_blt (X := X.suite a ((a, o3) :: (X.pn ++ pins))) S3 hg hm hv q hnn hdbg
    refine test (LM.here (codeAny_handlers_suite_as ?_))
    refine HandSPX.lands_againZ fl3 fun h4 fl4 up4 => ?_
    have J4 : Inv X pins σ' H' { s' with heap := h4 } := J.landed nb fl4.1 ((up.trans up3).trans up4) os ag
    obtain ⟨o4, v4, g4, z4, d4⟩ := fl4.there
    refine store_ok (X := X.suite a ((a, o4) :: (X.pn ++ pins))) (v := .ref a) (J4.suite g4 d4 na nL nF) hN hi (.inl hln) rfl (fun s5 S5 => ?_) (.inr hln)
    refine wpAny_mono ((hsu a o4 cls d (X.pn ++ pins) z4 ⟨_, d4⟩).run [] s5 _ H' _ S5 (hts J.len a na)) (fun f s6 q => ?_) fun _ _ z => z.elim
    cases f with
    | next =>
      obtain ⟨σ6, H6, S6, q6⟩ := q
      refine gone_ok (mine S6 ok) hN hi hln fun s7 J7 => ?_
      have hn : H6 a = none := (J7.pin (a, o4) (List.mem_append_right _ List.mem_cons_self)).2.1
      have g7 := (J7.pin (a, o4) (List.mem_append_right _ List.mem_cons_self)).1
      exact ⟨_, _, seen (unpin J7) hn nL new0 newC newP (show ObjOk X.prog X.w _ _ _ (.ext (Kept cls d a)) from ⟨⟨o4, g7, z4, _, d4⟩, ⟨_, g7⟩, fun h1 h2 ⟨oe, e1, e2⟩ hk => ⟨oe, hk _ e1, e2⟩⟩), q6 hn⟩
    | brk =>
      obtain ⟨_, _, _, z⟩ := q
      exact z.elim
    | cont =>
      obtain ⟨_, _, _, z⟩ := q
      exact z.elim
    | ret u =>
      obtain ⟨_, _, _, _, _, z⟩ := q
      exact z.elim
  refine wpAny_Try_except (wpAny_mono ((hb _ (X.pn ++ pins) hand take PassesOwn.looking).run [] s σ H D (I.toTry _) h) (fun f s1 q => ?_) fun e s1 he => he)
  have q' : SP X pins D f s1 := back q
  cases f with
  | next => exact wpAny_execs_nil q'
  | ret u => exact q'
  | brk => exact q'
  | cont => exact q'
/-- isinstance(e, c), e an exception that was kept -/
def rIsKept (K : PySem.W.Frag) : List V → Hp → VK → Prop := fun xs H Q => ∃ (a D : Addr) (c : V) (cv : Value) (b : Bool), xs = [.ref a, c] ∧ H a = some (.ext (Kept (.ref D) none a)) ∧ ExcC K D ∧ (∀ u, RelV c u → u = cv) ∧ PySem.W.kitOne K (.ref D) cv = some b ∧ Q (.bl b) H
theorem call_isKept : CallR X (.builtin "isinstance") (rIsKept X.K) := by
  intro pins s σ H xs us Q I r h
  obtain ⟨a, D, c, cv, b, rfl, ha, C, hcv, e, q⟩ := h
  cases r with
  | cons rx rr =>
    cases rr with
    | cons rt rr =>
      cases rr
      cases rx
      cases hcv _ rt
      obtain ⟨⟨oe, hget, hz, vs, hv⟩, _, _⟩ := (show ObjOk X.prog X.w H s.heap a (.ext (Kept (.ref D) none a)) from I.hok _ _ ha)
      have J : PySem.W.InstAt s.heap a oe D none := by
        obtain ⟨oc, od, oda, osl⟩ := oe
        obtain ⟨h1, h2⟩ := hz
        dsimp only at h1 h2 hv
        subst h1 h2 hv
        exact ⟨hget, rfl, rfl, trivial⟩
      refine PySem.W.kia_one (PySem.W.handS_kitx_exc C.hg C.hk C.hs C.hd C.ha C.hn C.ht C.hm) I.kIn J e (fun z => nomatch z) fun tk => ?_
      exact ⟨.bl b, H, I.kept (t' := tk) fun _ _ z => z, rfl, q⟩
end
end SWL
set_option Elab.async false
set_option linter.all false
set_option maxRecDepth 100000
set_option maxHeartbeats 4000000
namespace SWL
open PySem PySem.Spec PyProof.Rows L2 LamX
/-! the def that calls what it got and hands back the exception that it caught -/
def TCaught (K : PySem.W.Frag) (CS : Addr) : (XK → Hp → VK → Prop) → Hp → VK → Prop := fun tl H Q =>
  tl (fun cls d H' => PySem.W.exmOne K cls (.ref CS) = some true ∧ ∀ a, H' a = none → Q (.ref a) (upd H' a (.ext (Kept cls d a)))) H (fun _ H' => ∃ v, (some (some V.non) : Option (Option V)) = some (some v) ∧ Q v H')
section
variable {X : Cx}
theorem caught_gives {x a fnd err en q : Str} {sg : Scope} {g CS : Addr} {cdg : Value} {p1 p2 p3 p4 p5 p6 p7 p8 p9 p10 p11 p12 p13 p14 : Pos} {j : Nat}
    (hge : sg.names.lookup en = some .globalImplicit) (hme : X.mg en = some (.ref CS)) (hde : (en == ("__debug__" : Str)) = false)
    (hlf : sg.names.lookup fnd = some .local) (hle : sg.names.lookup err = some .local)
    (hN : [a, fnd, err].Nodup) (df : (fnd == ("__debug__" : Str)) = false) (cf : (fnd == ("__classdict__" : Str)) = false) (de : (err == ("__debug__" : Str)) = false) (ce : (err == ("__classdict__" : Str)) = false) :
    GivesTo X [a, fnd, err] x sg g cdg [.Assign [.Name fnd p1] (.Constant .none j p2) p3, .Try [.Expr (.Call (.Name a p4) [] [] p5) p6] [.ExceptHandler (some (.Name en p7)) (some err) [.Assign [.Name fnd p8] (.Name err p9) p10] p11] [] [] p12, .Return (some (.Name fnd p13)) p14] a q (TCaught X.K CS) := by
  intro f c' s H Q tl act hc h
  have hgl : Gl (cxOf C8.CX0 X.prog X.w X.K X.mg X.base [a, fnd, err] x sg g cdg X.A X.stack s H C8.E0).nox en := hge
  have la : Loc sg fnd := .inl hlf
  have le : Loc sg err := .inl hle
  refine ⟨_, pss_cons (ps_set (X := (cxOf C8.CX0 X.prog X.w X.K X.mg X.base [a, fnd, err] x sg g cdg X.A X.stack s H C8.E0).nox) (i := 1) hN rfl la pe_non (hf := .inr hlf))
    (pss_cons (ps_try_keep (X := (cxOf C8.CX0 X.prog X.w X.K X.mg X.base [a, fnd, err] x sg g cdg X.A X.stack s H C8.E0).nox) (c := .ref CS) (i := 2)
      (tb := fun W D σ H => ∃ Ech : XK, (∀ cls d σ' H', Ech cls d H' → W cls d σ' H') ∧ σ[0]? = some (some (.ref f)) ∧ H c' = some (CodeO c' q) ∧ tl Ech H fun _ H' => D.nx σ H')
      rfl rfl hN rfl hle ⟨hgl, hde, .inl hme⟩ (fun W pn xe tk _ => ?_) (fun a' oe cls d pn _ _ => pss_one (ps_set (i := 1) hN rfl la (pe_var (i := 2) rfl (.inl hle) de ce) (hf := .inr hlf))))
    (pss_one (ps_ret (pe_var (i := 1) rfl (.inl hlf) df cf)))), ?_⟩
  · refine ⟨fun pins s' σ H' D I h' => ?_⟩
    obtain ⟨Ech, hW, h1, h2, h3⟩ := h'
    have hp := act W pn xe Ech p4 p5 tk hW
    exact (pss_one (ps_expr (pos := p6) hp (by rfl))).run pins s' σ H' D I ⟨h1, h2, h3⟩
  · refine ⟨fun cls d H' => PySem.W.exmOne X.K cls (.ref CS) = some true ∧ ∀ a, H' a = none → Q (.ref a) (upd H' a (.ext (Kept cls d a))), fun cls d σ' H' ⟨e1, e2⟩ => ⟨e1, fun hl a' na => ?_⟩, rfl, hc, h⟩
    obtain ⟨s0, s1, s2, rfl⟩ : ∃ s0 s1 s2, σ' = [s0, s1, s2] := by
      match σ', hl with
      | [x, y, z], _ => exact ⟨x, y, z, rfl⟩
    exact ⟨_, rfl, fun na' => ⟨_, rfl, e2 a' na'⟩⟩
end
end SWL
set_option Elab.async false
set_option linter.all false
set_option maxRecDepth 100000
set_option maxHeartbeats 4000000
namespace SWL
open PySem PySem.Spec PyProof.Rows L2 LamX
/-! defs that ask that no guard is in hand (for repr): their promises, their calls, and the end of a law row with them -/
structure FnG (P : Program) (w : World) (K : PySem.W.Frag) (mg : Str → Option Value) (base : Heap) (k : Nat) (f : Addr) (fd : FuncData) (ps : List Str) (sp : Sp) : Prop where
  len : ∀ vs H Q E, sp vs H Q E → vs.length = ps.length
  run : ∀ (A : Around) (outer : List Env) (s : Shared) (H : Hp) (args : Args) (us : List Value) (vs : List V) (Q : VK) (E : XK), A.guards = some [] → Room k A → Env0 P w K mg base A outer s H → BindsTo s fd args (ps.zip us) → Vals vs us → sp vs H Q E →
    codeAny (model P w) A (.call (.ref f) args) (CR CX0 outer P w H s Q E) s
theorem guards_deeper {A : Around} (env : Env) (h : A.guards = some []) : (A.deeper env).guards = some [] := h
section
variable {P : Program} {w : World} {K : PySem.W.Frag} {mg : Str → Option Value} {base : Heap}
theorem fng_ok {x qual : Str} {st : Stmt} {f : Addr} {fd : FuncData} {N ps : List Str} {k : Nat} {sp : Sp} (F : L2.Fun K x qual st f fd) (S : FnScope N ps (defScope st)) (len : ∀ vs H Q E, sp vs H Q E → vs.length = ps.length)
    (hbody : ∀ (cdv : Value) (A : Around) (outer : List Env) (s : Shared) (H : Hp) (vs : List V) (Q : VK) (E : XK), A.guards = some [] → PySem.W.codeIn K cdv qual = true → Room k (A.deeper (envOfC qual (defScope st) s.heap.objs.size f cdv)) → sp vs H Q E →
      ∃ t, PSs (cxOf CX0 P w K mg base N qual (defScope st) f cdv A outer s H E).nox (defBody st) t ∧ t { nx := fun _ H' => Q .non H', rt := Q } (L2.start N vs) H) : FnG P w K mg base (k + 1) f fd ps sp := by
  obtain ⟨oc, od, kV, doc, pm, an, cdv, ct, osl, rfl, lk, hcd⟩ := F.ex
  refine ⟨len, fun A outer s H args us vs Q E gA hr e0 hb r hsp => ?_⟩
  refine run_ofS lk hcd S hr e0 hb r (len _ _ _ _ hsp) fun hr2 => ?_
  obtain ⟨t, h, q⟩ := hbody cdv A outer s H vs Q E gA hcd hr2 hsp
  exact ⟨t, h.nox, q⟩
end
section
variable {X : Cx} {k : Nat} {f : Addr} {fd : FuncData} {ps : List Str} {sp : Sp} {E : XK} {x : Str} {p pos : Pos} {e : Expr} {es : List Expr} {t : TA}
theorem pe_callG (gd : X.A.guards = some []) (F : FnG X.prog X.w X.K X.mg X.base k f fd ps sp) (hr : Room k X.A) (hg : Gl X x) (hm : X.mg x = some (.ref f)) (hk : PySem.W.keepIn X.K (.ref f) = true) (hb : Binds X.K fd ps [])
    (ha : PA X (e :: es) t) (hdb : (x == ("__debug__" : Str)) = false := by decide) (he : starEach (e :: es) X.env = (false, eval e X.env) :: starEach es X.env := by rfl) (hpl : (backTo pos (starEach es X.env)).any (·.1) = false := by rfl) :
    PE X (.Call (.Name x p) (e :: es) [] pos) (tCall sp [] E0 t) := by
  constructor
  intro pins s σ H Q I h
  refine wpAny_Call_Name_kw (ld_glob I hg hm (PySem.W.callWith_K (h₀ := X.base) I.ok.mod.kin hk (thn (ha.run pos pins s σ H _ I h) fun us s1 ⟨vs, H1, I1, r, q⟩ => ⟨I1.kIn, ?_⟩) he hpl) hdb)
  have q : sp vs H1 Q E0 := by
    have z : sp (vs ++ []) H1 Q E0 := q
    rw [List.append_nil] at z
    exact z
  have hl : us.length = ps.length := r.length.symm.trans (F.len _ _ _ _ q)
  have hb1 := hb s1 us I1.kIn (by rw [List.append_nil]; exact hl)
  rw [List.append_nil] at hb1
  refine wpAny_call (codeAny_mono (F.run X.A X.stack s1 H1 ⟨us, []⟩ us vs Q E0 gd hr I1.env0 hb1 r q) fun r s' hq => ?_)
  match r, hq with
  | .error _, z => exact False.elim z
  | .ok (.ret u), z => exact I1.after z
  | .ok .next, z => exact False.elim z
  | .ok .brk, z => exact False.elim z
  | .ok .cont, z => exact False.elim z
end
theorem vals_rev : ∀ {xs : List V} {us : List Value}, Vals xs us → Vals xs.reverse us.reverse
  | _, _, .nil => .nil
  | _, _, .cons h t => by
    rw [List.reverse_cons, List.reverse_cons]
    exact (vals_rev t).append (.cons h .nil)
/-! the end -/
/-- what is tracked at the start: the tables, the script -/
def hp0 (T : List Addr) (a : Addr) (own : Bool) (o : Obj) (xs : List V) : Hp := fun b => if b ∈ T then some (.tbl #[]) else if b = a ∧ own = true then some (.frz o (.lst xs)) else none
theorem hp0_tab {T : List Addr} {a : Addr} {own : Bool} {o : Obj} {xs : List V} {b : Addr} (h : b ∈ T) : hp0 T a own o xs b = some (.tbl #[]) := if_pos h
theorem hp0_cases {T : List Addr} {a : Addr} {own : Bool} {o : Obj} {xs : List V} (b : Addr) : (b ∈ T ∧ hp0 T a own o xs b = some (.tbl #[])) ∨ (b ∉ T ∧ b = a ∧ own = true ∧ hp0 T a own o xs b = some (.frz o (.lst xs))) ∨ (b ∉ T ∧ hp0 T a own o xs b = none) := by
  by_cases h : b ∈ T
  · exact .inl ⟨h, if_pos h⟩
  · by_cases h2 : b = a ∧ own = true
    · exact .inr (.inl ⟨h, h2.1, h2.2, (if_neg h).trans (if_pos h2)⟩)
    · exact .inr (.inr ⟨h, (if_neg h).trans (if_neg h2)⟩)
/-- what is known of the law's promise at the head's heap -/
def LawG (l : PySem.W.OpenLaw) (w : World) (K : PySem.W.Frag) (k n : Nat) (x : Str) (mg : Str → Option Value) (fa : Addr) (h : Heap) : Prop :=
  ∃ (fd : FuncData) (cs : List (Addr × Addr)) (sp : Sp), (∀ p ∈ cs, h.get? p.2 = some { cls := .none, data := .fields #[] }) ∧ (∀ p ∈ cs, K.lookup p.2 = none) ∧ (∀ p ∈ cs, PySem.W.CodeHd h p.1 p.2) ∧ (∀ (s : Shared) (u : Value), BindsTo s fd ⟨[u], []⟩ [(x, u)]) ∧
    (∀ (H : Hp) (a : Addr) (ns : List Int), ns.length ≤ n → (∀ z ∈ ns, Builtin.Int.intBits z ≤ 1048576) → (∀ p ∈ cs, H p.2 = some (.tbl #[])) → SqL K H a (ns.map V.int) → sp [.ref a] H (fun v _ => v = .bl true) fun _ _ _ => False) ∧
    ∀ base : Heap, K.In base → base.Ns mainGlobals mg → (∀ p ∈ cs, TabB base mg p.1 p.2) → FnG l.prog w K mg base k fa fd [x] sp
theorem law_callG {P : Program} {w : World} {K : PySem.W.Frag} {mg mb : Str → Option Value} {k : Nat} {fa a : Addr} {cs : List (Addr × Addr)} {fd : FuncData} {x : Str} {sp : Sp} {s : Shared} {vs : List Value} {ns : List Int}
    (KX : K.In s.heap) (hns : s.heap.Ns mainGlobals mg) (hb : s.heap.Ns builtinsNs mb) (hbb : ∀ x : Str, x ≠ "__name__" → mb x = bootBuiltins x) (hlim : s.heap.NoLimit) (hg : s.gens = #[])
    (hT : ∀ p ∈ cs, s.heap.get? p.2 = some { cls := .none, data := .fields #[] }) (nT : ∀ p ∈ cs, K.lookup p.2 = none) (C : ∀ p ∈ cs, PySem.W.CodeHd s.heap p.1 p.2)
    (hbm : ∃ (bm : Addr) (ob : Obj), mg "__builtins__" = some (.ref bm) ∧ bm ≠ builtinsNs ∧ s.heap.get? bm = some ob ∧ ob.cls = .type "module" ∧ ob.dict = some builtinsNs ∧ ob.data = .plain)
    (ha : s.heap.get? a = some { cls := .type "list", data := .seq vs.toArray }) (hi : IntsAre vs ns) (hl : ns.length ≤ sizeLine) (hr : Room k callerA)
    (F : ∀ base : Heap, K.In base → base.Ns mainGlobals mg → (∀ p ∈ cs, TabB base mg p.1 p.2) → FnG P w K mg base k fa fd [x] sp) (hbind : ∀ (s : Shared) (u : Value), BindsTo s fd ⟨[u], []⟩ [(x, u)])
    (hsp : ∀ H : Hp, (∀ p ∈ cs, H p.2 = some (.tbl #[])) → SqL K H a (ns.map V.int) → sp [.ref a] H (fun v _ => v = .bl true) fun _ _ _ => False) :
    codeAny (model P w) callerA (.call (.ref fa) ⟨[.ref a], []⟩) (fun r s' => r = .ok (.ret (.bool true)) ∧ OldK s.heap s'.heap ∧ s'.os = s.os ∧ AllBare s'.gens) s := by
  generalize hTs : cs.map (·.2) = T
  have inT : ∀ {p}, p ∈ cs → p.2 ∈ T := fun hp => by rw [← hTs]; exact List.mem_map.mpr ⟨_, hp, rfl⟩
  have ofT : ∀ {b}, b ∈ T → ∃ p ∈ cs, p.2 = b := fun hb => by rw [← hTs] at hb; exact List.mem_map.mp hb
  have atT : ∀ {b}, b ∈ T → s.heap.get? b = some { cls := .none, data := .fields #[] } := fun hb => by
    obtain ⟨p, hp, e⟩ := ofT hb
    rw [← e]
    exact hT p hp
  let os : Obj := { cls := .type "list", data := .seq vs.toArray }
  let own : Bool := (K.lookup a).isNone
  let H : Hp := hp0 T a own os (ns.map V.int)
  have aT : a ∉ T := fun z => by
    have q := (atT z).symm.trans ha
    cases q
  have rv := vals_ints hi
  have hHT : ∀ p ∈ cs, H p.2 = some (.tbl #[]) := fun p hp => hp0_tab (inT hp)
  have seq : SqL K H a (ns.map V.int) := by
    cases e : K.lookup a with
    | some o =>
      have z := (KX a o e).symm.trans ha
      cases z
      exact .inr ⟨_, vs.toArray, _, e, rfl, rfl, rfl, by rw [List.size_toArray, hi.length]; exact hl, by simpa using rv⟩
    | none =>
      have hown : own = true := by show (K.lookup a).isNone = true; rw [e]; rfl
      exact .inl (.inr ⟨os, (if_neg aT).trans (if_pos ⟨rfl, hown⟩)⟩)
  have hok : HOk P w H s.heap := fun b u e => by
    rcases hp0_cases (T := T) (a := a) (own := own) (o := os) (xs := ns.map V.int) b with ⟨h1, h2⟩ | ⟨_, rfl, _, h2⟩ | ⟨_, h2⟩
    · cases (show H b = some (.tbl #[]) from h2).symm.trans e
      exact atT h1
    · cases (show H b = _ from h2).symm.trans e
      exact ⟨ha, by rw [List.length_map]; exact hl, vs, _, rv, ha⟩
    · cases (show H b = none from h2).symm.trans e
  -- what is no list and no empty table is untracked
  have un0 : ∀ {b : Addr} {o : Obj}, s.heap.get? b = some o → (∀ vs n, o.data ≠ .seq vs n) → o.data ≠ .fields #[] → H b = none := fun {b o} e h1 h2 => by
    rcases hp0_cases (T := T) (a := a) (own := own) (o := os) (xs := ns.map V.int) b with ⟨q1, _⟩ | ⟨_, rfl, _, _⟩ | ⟨_, q⟩
    · cases e.symm.trans (atT q1)
      exact absurd rfl h2
    · cases e.symm.trans ha
      exact absurd rfl (h1 _ _)
    · exact q
  have hid : ∀ {b o}, s.heap.get? b = some o → H b = none → (hidT s.heap H).get? b = some o := fun e n => hidT_get e n
  have hidNs : ∀ {b m}, s.heap.Ns b m → (hidT s.heap H).Ns b m := fun ⟨o, es, ep, e, d, r⟩ => ⟨o, es, ep, hid e (un0 e (fun _ _ z => by rw [d] at z; cases z) fun z => by rw [d] at z; cases z), d, r⟩
  have hKb : K.In (hidT s.heap H) := fun b o e => hid (KX b o e) (by
    rcases hp0_cases (T := T) (a := a) (own := own) (o := os) (xs := ns.map V.int) b with ⟨q1, _⟩ | ⟨_, rfl, q2, _⟩ | ⟨_, q⟩
    · obtain ⟨p, hp, rfl⟩ := ofT q1
      cases (nT p hp).symm.trans e
    · have q3 : (K.lookup b).isNone = true := q2
      rw [e] at q3
      cases q3
    · exact q)
  have hM : L2.Mod K mg (hidT s.heap H) := by
    obtain ⟨mc, h1, h2⟩ := hlim
    exact ⟨hKb, hidNs hns, ⟨mb, hidNs hb, hbb⟩, mc, hidNs h1, h2⟩
  have TB : ∀ p ∈ cs, TabB (hidT s.heap H) mg p.1 p.2 := fun p hp => by
    have tp := hT p hp
    refine ⟨?_, ?_, fun z => ?_⟩
    · obtain ⟨o, us, file, tf, flags, tg, inF, text, tt, e1, r1, r2, r3, rest⟩ := C p hp
      refine ⟨o, us, file, tf, flags, tg, inF, text, tt, hid e1 (un0 e1 (fun _ _ z => by rw [r2] at z; cases z) fun z => ?_), r1, r2, r3, rest⟩
      rw [r2] at z
      cases z
      simp at r3
    · obtain ⟨bm, ob, b1, b2, b3, b4, b5, b6⟩ := hbm
      refine ⟨bm, ob, b1, b2, fun q => ?_, fun q => ?_, hid b3 (un0 b3 (fun _ _ z => by rw [b6] at z; cases z) fun z => by rw [b6] at z; cases z), b4, b5, b6⟩
      · obtain ⟨o, es, ep, e, hd, _⟩ := hns
        rw [q] at b3
        cases e.symm.trans b3
        cases hd.symm.trans b6
      · rw [q] at b3
        cases tp.symm.trans b3
        cases b6
    · obtain ⟨o, es, ep, e, hd, _⟩ := hns
      rw [z] at e
      cases tp.symm.trans e
      cases hd
  have e0 : Env0 P w K mg (hidT s.heap H) callerA [] s H := ⟨rfl, hM, fun b o e => of_hidT e, Nat.le_of_eq (hidT_size _ _), trivial, fun b hb => absurd (show b ∈ ([] : List Addr) from hb) (by simp), hok, .of_eq hg⟩
  refine codeAny_mono ((F _ hKb (hidNs hns) TB).run callerA [] s H ⟨[.ref a], []⟩ [.ref a] [.ref a] _ _ rfl hr e0 (hbind s (.ref a)) (.cons rfl .nil) (hsp H hHT seq)) fun r s' h => ?_
  match r, h with
  | .error _, z => exact False.elim z
  | .ok .next, z => exact False.elim z
  | .ok .brk, z => exact False.elim z
  | .ok .cont, z => exact False.elim z
  | .ok (.ret u), z =>
    obtain ⟨v, H', eos, bare, un, hok', rv', q⟩ := z
    cases (show v = .bl true from q)
    cases (show u = Value.bool true from rv')
    have same : ∀ b o, b ∉ T → s.heap.get? b = some o → s'.heap.get? b = some o := fun b o nb e => by
      rcases hp0_cases (T := T) (a := a) (own := own) (o := os) (xs := ns.map V.int) b with ⟨q1, _⟩ | ⟨_, rfl, _, q1⟩ | ⟨_, q1⟩
      · exact absurd q1 nb
      · have z2 := (hok' b _ (un.frzs b _ _ q1)).1
        cases e.symm.trans ha
        exact z2
      · exact un.keep b o e q1 (fun z => absurd (show b ∈ ([] : List Addr) from z) (by simp)) (by simp)
    have grown : ∀ p ∈ cs, ∃ more : Array Value, s'.heap.get? p.2 = some { cls := .none, data := .fields more } := fun p hp => by
      obtain ⟨more, z⟩ := un.tbls p.2 #[] (hHT p hp)
      exact ⟨_, hok' p.2 _ z⟩
    refine ⟨rfl, ⟨fun b o e => ?_, fun b o e => ?_⟩, eos, bare⟩
    · by_cases hb : b ∈ T
      · obtain ⟨p, hp, rfl⟩ := ofT hb
        obtain ⟨more, hm⟩ := grown p hp
        cases e.symm.trans (hT p hp)
        exact .inr (.inl ⟨((C p hp).tab (hT p hp)).isCodeTable, rfl, #[], more, rfl, by rw [Array.empty_append]; exact hm⟩)
      · exact .inl (same b o hb e)
    · by_cases hb : b ∈ T
      · obtain ⟨p, hp, rfl⟩ := ofT hb
        obtain ⟨more, hm⟩ := grown p hp
        exact ⟨_, hm⟩
      · exact ⟨o, same b o hb e⟩
theorem walk_ofG {l : PySem.W.OpenLaw} {n k : Nat} {q : Program} {loose : List Str} {XP : (Str → Option Value) → Heap → Prop} {YP : World → Heap → Prop} {d : DefRec} {K : Params → PySem.W.Frag} {x : Str}
    (hn : l.most = some n) (hn2 : n ≤ sizeLine) (hdf : d.params.defaults = []) (hr : Room k callerA) (hY : ∀ (w : World) (h : Heap), YP w h → (K w.params).In h)
    (F : ∀ (w : World) (mg : Str → Option Value) (fa : Addr) (h : Heap) (lo : List Str) (mean : ExcName → Option Value) (mb : Str → Option Value), Top q lo mean mg mb h → YP w h → (K w.params).In h → h.Ns mainGlobals mg → mg d.name = some (.ref fa) → LawG l w (K w.params) k n x mg fa h) :
    PySem.W.WalkO q loose XP YP l.row.toRowW d [] (fun f vs => PySem.call f vs) := by
  refine Att.attach_callB hn hdf fun w s₀ s₁ mg mb fa o pm cd doc a vs ns G Y ho hd hcd hmg hobj hints hlen hbits hg => ?_
  obtain ⟨fd, cs, sp, hT, nT, C, hb, hsp, hF⟩ := F w mg fa _ _ _ _ G.T Y (hY w _ Y) G.T.g hmg
  exact law_callG (hY w _ Y) G.T.g G.T.b G.T.builtins G.T.nolimit hg hT nT C G.T.bmain hobj hints (Nat.le_trans hlen hn2) hr hF hb fun H hH hS => hsp H a ns hlen hbits hH hS
end SWL
set_option Elab.async false
set_option linter.all false
set_option maxRecDepth 100000
set_option maxHeartbeats 4000000
namespace SWL
open PySem PySem.Spec PyProof.Rows L2 LamX
/-! f(k = v, ..) without a positional value; comprehensions whose turns only grow the heap -/
section
variable {X : Cx} {CX : CXT} {k : Nat} {f : Addr} {fd : FuncData} {ps ks : List Str} {sp : Sp} {E : XK} {x : Str} {p pos : Pos} {kws : List Keyword} {tk : TA} {g : List Value → List Value → List Value} {gV : List V → List V → List V}
def tKw (sp : Sp) (gV : List V → List V → List V) (E : XK) (tk : TA) : TE := fun σ H Q => tk σ H fun zs H2 => sp (gV [] zs) H2 Q E
theorem pe_kwCall (F : FnOk X.prog X.w X.K X.mg X.base CX k f fd ps sp) (hr : Room k X.A) (hg : Gl X x) (hm : X.mg x = some (.ref f)) (hk : PySem.W.keepIn X.K (.ref f) = true) (hb : KBinds X.K fd ps ks g gV) (hx : Passes CX X E)
    (hkw : PK X kws tk) (hall : (backToKw pos (keywordEach kws X.env)).all (·.1.isSome) = true := by rfl) (hks : (backToKw pos (keywordEach kws X.env)).filterMap (·.1) = ks := by rfl)
    (hdb : (x == ("__debug__" : Str)) = false := by decide)
    (hpl : ((backTo pos (starEach [] X.env)).any (·.1) || (backToKw pos (keywordEach kws X.env)).any (·.1.isNone)) = false := by rfl) :
    PE X (.Call (.Name x p) [] kws pos) (tKw sp gV E tk) := by
  constructor
  intro pins s σ H Q I h
  refine wpAny_Call_Name_kw (ld_glob I hg hm (PySem.W.callWith_KW0 (h₀ := X.base) I.ok.mod.kin hk hall ?_ hpl) hdb)
  refine thn (hkw.run pos pins s σ H _ I h) fun ws s2 ⟨zs, H2, I2, rz, q2⟩ => ⟨I2.kIn, ?_⟩
  rw [hks]
  exact run_fnk (us := []) (vs := []) F hr hb hx I2 .nil rz q2
end
theorem take_snoc {α : Type} : ∀ {l : List α} {i : Nat} {x : α}, l[i]? = some x → l.take (i + 1) = l.take i ++ [x] := fun {l i x} h => by rw [List.take_add_one, h]; rfl
theorem compF {J : It} {G : Hp → Prop} {xs : List V} (w : Walk J xs.length G (YAt xs)) (p : V → Bool) (f : V → V) {i : Nat} {tt : TT} {te : TE} {σ : L2.St} {H1 : Hp} {D : Addr} {Qd : Hp → Prop} (nD : H1 D = none) (hG : ∀ H, Grows H1 H → G H) (hz : (xs.filter p).length ≤ sizeLine)
    (htt : ∀ x H k, x ∈ xs → Grows H1 H → (∀ H', Grows H H' → k (p x) H') → tt ((σ.set i none).set i (some x)) H k)
    (hte : ∀ x H Q, x ∈ xs → p x = true → Grows H1 H → (∀ H', Grows H H' → Q (f x) H') → te ((σ.set i none).set i (some x)) H Q)
    (hd : ∀ H, Grows H1 H → H D = some (.lst ((xs.filter p).map f)) → Qd H) :
    ∃ W : Nat → Nat → Hp → Prop, (∃ m, W 0 m (upd H1 D (.lst []))) ∧ ∀ n m H, W n m H →
      (J.stop n H ∧ Qd H) ∨ (J.go n H ∧ ∃ Nx : Hp → Prop, (∀ H', Nx H' → ∃ m', m' < m ∧ W (n + 1) m' H') ∧ ∀ x H', J.yld n H x H' → gName i x (wipe σ [i]) H' fun σ2 H2 => wipe σ2 [i] = wipe σ [i] ∧ tt σ2 H2 fun b H3 =>
        if b = true then te σ2 H3 fun y H4 => ∃ acc, H4 D = some (.lst acc) ∧ acc.length < sizeLine ∧ Nx (upd H4 D (.lst (acc ++ [y]))) else Nx H3) := by
  have gU : ∀ {H : Hp} {o : HO}, Grows H1 H → Grows H1 (upd H D o) := fun g b u e => by
    rw [upd_ne (ne_of_none e nD)]
    exact g b u e
  refine lc_it w (fun n H => Grows H1 H ∧ H D = some (.lst (((xs.take n).filter p).map f))) ⟨Grows.new nD, by rw [upd_same]; rfl⟩ (fun n H _ h => hG H h.1) (fun n x H H' hn ⟨g, hD⟩ ⟨e, hx⟩ => ?_) fun H ⟨g, hD⟩ => hd H g (by rw [List.take_length] at hD; exact hD)
  subst e
  have hm : x ∈ xs := List.mem_of_getElem? hx
  refine ⟨by show (((σ.set i none).set i (some x)).set i none) = σ.set i none; simp, ?_⟩
  refine htt x H' _ hm g fun H2 g2 => ?_
  have et : ((xs.take (n + 1)).filter p).map f = ((xs.take n).filter p).map f ++ (if p x = true then [f x] else []) := by
    rw [take_snoc hx, List.filter_append, List.map_append]
    by_cases hp : p x = true <;> simp [hp]
  by_cases hp : p x = true
  · rw [if_pos hp]
    refine hte x H2 _ hm hp (g.trans g2) fun H3 g3 => ?_
    refine ⟨_, g3 _ _ (g2 _ _ hD), ?_, gU ((g.trans g2).trans g3), ?_⟩
    · rw [List.length_map]
      have hs : ((xs.take (n + 1)).filter p).length ≤ (xs.filter p).length := ((List.take_sublist (n + 1) xs).filter p).length_le
      rw [take_snoc hx, List.filter_append, List.length_append] at hs
      have h1 : ([x].filter p).length = 1 := by simp [hp]
      omega
    · rw [upd_same, et, if_pos hp]
  · rw [if_neg hp]
    refine ⟨g.trans g2, ?_⟩
    rw [et, if_neg hp, List.append_nil]
    exact g2 _ _ hD
theorem comp {J : It} {G : Hp → Prop} {xs : List V} (w : Walk J xs.length G (YAt xs)) (p : V → Bool) (f : V → V) {i : Nat} {tt : TT} {te : TE} {σ : L2.St} {H1 : Hp} {D : Addr} {Qd : Hp → Prop} (nD : H1 D = none) (hG : ∀ H, Grows H1 H → G H) (hz : xs.length ≤ sizeLine)
    (htt : ∀ x H k, x ∈ xs → Grows H1 H → (∀ H', Grows H H' → k (p x) H') → tt ((σ.set i none).set i (some x)) H k)
    (hte : ∀ x H Q, x ∈ xs → p x = true → Grows H1 H → (∀ H', Grows H H' → Q (f x) H') → te ((σ.set i none).set i (some x)) H Q)
    (hd : ∀ H, Grows H1 H → H D = some (.lst ((xs.filter p).map f)) → Qd H) :
    ∃ W : Nat → Nat → Hp → Prop, (∃ m, W 0 m (upd H1 D (.lst []))) ∧ ∀ n m H, W n m H →
      (J.stop n H ∧ Qd H) ∨ (J.go n H ∧ ∃ Nx : Hp → Prop, (∀ H', Nx H' → ∃ m', m' < m ∧ W (n + 1) m' H') ∧ ∀ x H', J.yld n H x H' → gName i x (wipe σ [i]) H' fun σ2 H2 => wipe σ2 [i] = wipe σ [i] ∧ tt σ2 H2 fun b H3 =>
        if b = true then te σ2 H3 fun y H4 => ∃ acc, H4 D = some (.lst acc) ∧ acc.length < sizeLine ∧ Nx (upd H4 D (.lst (acc ++ [y]))) else Nx H3) :=
  compF w p f nD hG (Nat.le_trans (List.length_filter_le p xs) hz) htt hte hd
/-- the signs of a text -/
theorem walk_signs (z : Str) : Walk (Its z) (signsV z).length (fun _ => True) (YAt (signsV z)) := by
  have hn : (signsV z).length = z.cps.size := by unfold signsV; simp
  rw [hn]
  refine walk_str.mono (fun _ _ => trivial) fun i H x H' hi _ ⟨e, c, hc, ex⟩ => ⟨e, ?_⟩
  unfold signsV
  rw [List.getElem?_map, Array.getElem?_toList, hc, ex]
  rfl
theorem signs_len (z : Str) : (signsV z).length = z.length := by
  unfold signsV
  rw [List.length_map, Array.length_toList]
  rfl
theorem signs_mem {z : Str} {x : V} (h : x ∈ signsV z) : ∃ c, c ∈ z.cps.toList ∧ x = .str ⟨#[c]⟩ := by
  obtain ⟨c, hc, rfl⟩ := List.mem_map.mp h
  exact ⟨c, hc, rfl⟩
theorem filter_yes {α : Type} (l : List α) : l.filter (fun _ => true) = l := List.filter_eq_self.mpr fun _ _ => rfl
end SWL
set_option Elab.async false
set_option linter.all false
set_option maxRecDepth 100000
set_option maxHeartbeats 4000000
namespace SWL
open PySem PySem.Spec PyProof.Rows L2 LamX
/-! a comprehension over zip(text, text) -/
theorem walk_pairs (x y : Str) : Walk (PairsS x y) (x.cps.toList.zip y.cps.toList).length (fun _ => True) (fun i H v H' => ∃ (T : Addr) (c d : Nat), v = .ref T ∧ H T = none ∧ H' = upd H T (.tup [.str ⟨#[c]⟩, .str ⟨#[d]⟩]) ∧ (x.cps.toList.zip y.cps.toList)[i]? = some (c, d)) := by
  have hn : (x.cps.toList.zip y.cps.toList).length = min x.cps.size y.cps.size := by simp
  rw [hn]
  refine ⟨fun _ _ hi _ => hi, fun _ _ => rfl, fun i H v H' hi _ q => ?_⟩
  obtain ⟨T, c, d, h1, h2, h3, h4, h5⟩ := q
  exact ⟨T, c, d, h1, h2, h3, List.getElem?_zip_eq_some.mpr ⟨by rw [Array.getElem?_toList]; exact h4, by rw [Array.getElem?_toList]; exact h5⟩⟩
theorem compZ {K : PySem.W.Frag} {x y : Str} (f : Nat × Nat → V) {i j : Nat} {te : TE} {σ : L2.St} {H1 : Hp} {D : Addr} {Qd : Hp → Prop} (nD : H1 D = none) (hij : i ≠ j) (hz : x.length ≤ sizeLine)
    (hte : ∀ c d H Q, (c, d) ∈ x.cps.toList.zip y.cps.toList → Grows H1 H → (∀ H', Grows H H' → Q (f (c, d)) H') → te ((((σ.set j none).set i none).set i (some (.str ⟨#[c]⟩))).set j (some (.str ⟨#[d]⟩))) H Q)
    (hd : ∀ H, Grows H1 H → H D = some (.lst ((x.cps.toList.zip y.cps.toList).map f)) → Qd H) :
    ∃ W : Nat → Nat → Hp → Prop, (∃ m, W 0 m (upd H1 D (.lst []))) ∧ ∀ n m H, W n m H →
      ((PairsS x y).stop n H ∧ Qd H) ∨ ((PairsS x y).go n H ∧ ∃ Nx : Hp → Prop, (∀ H', Nx H' → ∃ m', m' < m ∧ W (n + 1) m' H') ∧ ∀ x' H', (PairsS x y).yld n H x' H' → gTup K 2 (gCons (gName i) (gCons (gName j) gNil)) x' (wipe σ [i, j]) H' fun σ2 H2 => wipe σ2 [i, j] = wipe σ [i, j] ∧ tYes σ2 H2 fun b H3 =>
        if b = true then te σ2 H3 fun y H4 => ∃ acc, H4 D = some (.lst acc) ∧ acc.length < sizeLine ∧ Nx (upd H4 D (.lst (acc ++ [y]))) else Nx H3) := by
  have gU : ∀ {H : Hp} {o : HO}, Grows H1 H → Grows H1 (upd H D o) := fun g b u e => by
    rw [upd_ne (ne_of_none e nD)]
    exact g b u e
  refine lc_it (walk_pairs x y) (fun n H => Grows H1 H ∧ H D = some (.lst (((x.cps.toList.zip y.cps.toList).take n).map f))) ⟨Grows.new nD, by rw [upd_same]; rfl⟩ (fun n H _ h => trivial) (fun n v H H' hn ⟨g, hD⟩ ⟨T, c, d, hv, hT, hH', hcd⟩ => ?_) fun H ⟨g, hD⟩ => hd H g (by rw [List.take_length] at hD; exact hD)
  subst hH'
  have gT : Grows H (upd H T (.tup [.str ⟨#[c]⟩, .str ⟨#[d]⟩])) := Grows.new hT
  refine ⟨T, _, hv, .inl (.inl upd_same), rfl, _, _, rfl, _, _, rfl, rfl, ?_, ?_⟩
  · show (((((σ.set j none).set i none).set i _).set j _).set j none).set i none = (σ.set j none).set i none
    simp only [List.set_set]
    rw [List.set_comm _ _ hij]
    simp only [List.set_set]
  · refine hte c d _ _ (List.mem_of_getElem? hcd) (g.trans gT) fun H3 g3 => ?_
    refine ⟨_, g3 _ _ (gT _ _ hD), ?_, gU ((g.trans gT).trans g3), ?_⟩
    · rw [List.length_map, List.length_take]
      have : (x.cps.toList.zip y.cps.toList).length ≤ x.length := by
        rw [List.length_zip, Array.length_toList]
        exact Nat.min_le_left _ _
      omega
    · rw [upd_same, take_snoc hcd, List.map_append]
      rfl
end SWL
set_option Elab.async false
set_option linter.all false
set_option maxRecDepth 100000
set_option maxHeartbeats 4000000
namespace SWL
open PySem PySem.Spec PyProof.Rows L2 LamX
def top18 (i : Nat) : Stmt := PySem.Challenge.pw_swinglogic_k18_whole_least_of_words.main.body.getD i (.Pass ⟨0, 0, 0, 0⟩)
abbrev sIsL : Stmt := top18 8
abbrev sNeedL : Stmt := top18 9
abbrev sIsW : Stmt := top18 10
abbrev sNeedW : Stmt := top18 11
abbrev sOrd : Stmt := top18 12
abbrev sInO : Stmt := top18 13
abbrev sIsS : Stmt := top18 15
abbrev sStr : Stmt := top18 16
abbrev sAmong : Stmt := top18 18
abbrev sLeast : Stmt := top18 19
/-- the module's names: what is built in, and the constants -/
structure Blt (mg : Str → Option Value) : Prop where
  isi : mg "isinstance" = none
  str : mg "str" = none
  int : mg "int" = none
  list : mg "list" = none
  tuple : mg "tuple" = none
  dict : mg "dict" = none
  len : mg "len" = none
  all : mg "all" = none
  any : mg "any" = none
  zip : mg "zip" = none
  sorted : mg "sorted" = none
  abs : mg "abs" = none
  range : mg "range" = none
  min : mg "min" = none
  repr : mg "repr" = none
  small : ∃ t, mg "SMALL" = some (.str "abcdefghijklmnopqrstuvwxyz" t)
  mostL : ∃ t, mg "MOST_LETTERS" = some (.int 4 t)
def NotStr (K : PySem.W.Frag) (H : Hp) (x : V) : Prop := ∃ t : String, TyX K H x (.type t) ∧ kitB t "str" = some false
def smallS : Str := "abcdefghijklmnopqrstuvwxyz"
def sign0 : V → Nat
  | .str z => z.cps.toList.headD 0
  | _ => 0
def inSm (v : V) : V := .bl (decide (sign0 v ∈ smallS.cps.toList))
theorem lt_one (c d : Nat) : decide (([c] : List Nat) < [d]) = decide (c < d) := by
  refine decide_eq_decide.mpr ?_
  constructor
  · intro h
    cases h with
    | rel h => exact h
    | cons h => cases h
  · intro h
    exact .rel h
def rises : List Nat → Bool
  | a :: b :: r => decide (a < b) && rises (b :: r)
  | _ => true
theorem rises_zip : ∀ l : List Nat, ((l.zip (l.drop 1)).map fun p => decide (p.1 < p.2)).all id = rises l
  | [] => rfl
  | [a] => rfl
  | a :: b :: r => by
    have ih := rises_zip (b :: r)
    show (decide (a < b) && (((b :: r).zip ((b :: r).drop 1)).map fun p => decide (p.1 < p.2)).all id) = (decide (a < b) && rises (b :: r))
    rw [ih]
theorem cut_len (z : Str) : z.cps.toList.length = z.length := Array.length_toList
theorem cut1 (z : Str) : (cutS z (some 1) none).cps.toList = z.cps.toList.drop 1 := by
  have h1 : HT.sIx z.length 0 (some 1) = min 1 z.length := HT.sIx_nat _ _ 1
  have h2 : HT.sIx z.length z.length none = z.length := rfl
  unfold cutS
  rw [h1, h2]
  show (z.cps.toList.drop (min 1 z.length)).take (z.length - min 1 z.length) = _
  have e : z.cps.toList.drop (min 1 z.length) = z.cps.toList.drop 1 := by
    by_cases h : 1 ≤ z.length
    · rw [Nat.min_eq_left h]
    · have : z.length = 0 := by omega
      have hz : z.cps.toList = [] := List.length_eq_zero_iff.mp (by rw [cut_len]; exact this)
      rw [hz]
      simp
  rw [e]
  refine List.take_of_length_le ?_
  rw [List.length_drop, cut_len]
  omega
def okLetters (z : Str) : Bool := decide (1 ≤ z.length ∧ z.length ≤ 4) && (z.cps.toList.all (fun c => decide (c ∈ smallS.cps.toList)) && rises z.cps.toList)
def spIsL (K : PySem.W.Frag) : Sp := fun vs H Q _ => ∃ x, vs = [x] ∧ ((∃ z, x = .str z ∧ z.length ≤ sizeLine ∧ ∀ H', Grows H H' → Q (.bl (okLetters z)) H') ∨ (NotStr K H x ∧ Q (.bl false) H))
theorem if_neg_of {c : Prop} [Decidable c] {A B : Prop} (hc : ¬ c) (h : B) : if c then A else B := by
  rw [if_neg hc]
  exact h
theorem if_pos_of {c : Prop} [Decidable c] {A B : Prop} (hc : c) (h : A) : if c then A else B := by
  rw [if_pos hc]
  exact h
section
variable {P : Program} {w : World} {K : PySem.W.Frag} {mg : Str → Option Value} {base : Heap}
theorem scIsL : FnScope ["thing", "sign", "one", "other"] ["thing"] (defScope sIsL) := ⟨rfl, rfl, rfl, by decide +kernel, rfl, by decide +kernel, by decide +kernel⟩
theorem ok_isL {f : Addr} {fd : FuncData} (F : L2.Fun K "is_letters" "is_letters" sIsL f fd) (B : Blt mg) : FnOk P w K mg base CX0 2 f fd ["thing"] (spIsL K) := by
  refine F.ok scIsL (fun vs H Q E h => ?_) (fun cdv A outer s H vs Q E hr h => ⟨_,
    pss_cons (ps_if (pw_or (pt_not (pt_truth (pe_callB call_isi (by rfl) B.isi (by decide +kernel) (pa_cons (pv 0) (pa_cons (pe_bltn (u := .type "str") (v := .ty "str") (by rfl) B.str (by decide +kernel) rfl) pa_nil))) (by intro _; rfl)))
      (pw_or1 (pt_not (pt_chain op_le op_le pe_int (pe_callB call_len_str (by rfl) B.len PySem.boot_len (pa_cons (pv 0) pa_nil)) (pe_glob (v := .int 4) (by rfl) B.mostL.choose_spec ⟨_, rfl⟩))))).pt (pss_one (ps_ret pe_bl)) pss_nil)
    (pss_one (ps_ret (pe_and
      (pe_callB (cr_all rfl) (by rfl) B.all (by decide +kernel) (pa_cons (pe_lc (own := [("sign", 1)]) (g := gName 1) (tt := tYes) rfl scIsL.nd (pi_str (pv 0)) (blkOk_by (N := ["thing", "sign", "one", "other"]) (sc := defScope sIsL) (by decide +kernel)) (fun _ _ _ _ _ => pg_name (i := 1) scIsL.nd rfl (Or.inl rfl)) (fun _ _ _ _ _ => pts_nil)
        (fun _ _ _ _ _ => pe_cmpR op_inS (pv 1) (pe_glob (v := .str smallS) (by rfl) B.small.choose_spec ⟨_, rfl⟩) rfl)) pa_nil))
      (pe_one (pe_callB (cr_all rfl) (by rfl) B.all (by decide +kernel) (pa_cons (pe_lc (own := [("one", 2), ("other", 3)]) (g := gTup K 2 (gCons (gName 2) (gCons (gName 3) gNil))) (tt := tYes) rfl scIsL.nd (pi_zipS (by rfl) B.zip (pa_cons (pv 0) (pa_cons (pe_slice sl_str (pv 0) (po_some pe_int) po_none) pa_nil))) (blkOk_by (N := ["thing", "sign", "one", "other"]) (sc := defScope sIsL) (by decide +kernel)) (fun _ _ _ _ _ => pg_tup rfl (pgs_cons (pg_name (i := 2) scIsL.nd rfl (Or.inl rfl)) (pgs_cons (pg_name (i := 3) scIsL.nd rfl (Or.inl rfl)) pgs_nil))) (fun _ _ _ _ _ => pts_nil)
        (fun _ _ _ _ _ => pe_cmpR op_lt_str (pv 2) (pv 3) rfl)) pa_nil)))))), ?_⟩)
  · obtain ⟨x, rfl, _⟩ := h
    rfl
  · obtain ⟨x, rfl, h⟩ := h
    rcases h with ⟨z, rfl, hz, q⟩ | ⟨⟨t, ty, hk⟩, q⟩
    · refine ⟨_, rfl, .str z, .ty "str", .type "str", .type "str", true, rfl, .ty "str", .base (.str z), kit_ty (by decide +kernel), true, rfl, ?_⟩
      refine if_neg_of (by decide) ?_
      refine ⟨_, rfl, z, rfl, hz, _, _, rfl, rfl, decide ((1 : Int) ≤ z.length), rfl, ?_⟩
      by_cases c1 : (1 : Int) ≤ z.length
      · refine if_pos_of (decide_eq_true c1) ⟨_, _, rfl, rfl, decide ((z.length : Int) ≤ 4), rfl, ?_⟩
        by_cases c2 : (z.length : Int) ≤ 4
        · refine if_neg_of (by rw [decide_eq_true c2]; decide) ?_
          refine ⟨_, rfl, z, rfl, fun D nD => comp (xs := signsV z) (walk_signs z) (fun _ => true) inSm nD (fun _ _ => trivial) (by rw [signs_len]; exact hz) (fun x H k _ g hk => hk H (Grows.refl H)) (fun x H Q hx _ g hq => ?_) (fun H2 g2 hD => ?_)⟩
          · obtain ⟨c, hc, rfl⟩ := signs_mem hx
            exact ⟨_, rfl, c, smallS, rfl, rfl, hq _ (Grows.refl _)⟩
          · rw [filter_yes] at hD
            refine ⟨D, z.cps.toList.map fun c => decide (c ∈ smallS.cps.toList), rfl, .inl (.inl (hD.trans ?_)), _, rfl, ?_⟩
            · unfold signsV
              rw [List.map_map, List.map_map]
              rfl
            · have e1 : (z.cps.toList.map fun c => decide (c ∈ smallS.cps.toList)).all id = z.cps.toList.all fun c => decide (c ∈ smallS.cps.toList) := by rw [List.all_map]; rfl
              rw [e1]
              have el : decide (1 ≤ z.length ∧ z.length ≤ 4) = true := decide_eq_true (by omega)
              cases e2 : z.cps.toList.all fun c => decide (c ∈ smallS.cps.toList) with
              | false =>
                refine if_neg_of (by decide) ?_
                have e3 : okLetters z = false := by unfold okLetters; rw [el, e2]; rfl
                rw [e3] at q
                exact q H2 g2
              | true =>
                refine if_pos_of rfl ?_
                refine ⟨_, rfl, _, rfl, 1, rfl, z, rfl, hz, z, _, rfl, fun D2 nD2 => compZ (fun p => V.bl (decide (p.1 < p.2))) nD2 (by decide) hz (fun c d H Q _ _ hq => ?_) fun H3 g3 hD3 => ?_⟩
                · refine ⟨_, rfl, _, rfl, _, _, rfl, rfl, ?_⟩
                  rw [show decide ((⟨#[c]⟩ : Str).cps.toList < (⟨#[d]⟩ : Str).cps.toList) = decide (c < d) from lt_one c d]
                  exact hq H (Grows.refl H)
                · rw [cut1] at hD3
                  refine ⟨D2, (z.cps.toList.zip (z.cps.toList.drop 1)).map fun p => decide (p.1 < p.2), rfl, .inl (.inl (hD3.trans ?_)), ?_⟩
                  · rw [List.map_map]
                    rfl
                  · rw [rises_zip]
                    have e3 : okLetters z = rises z.cps.toList := by unfold okLetters; rw [el, e2, Bool.true_and, Bool.true_and]
                    rw [e3] at q
                    exact q H3 (g2.trans g3)
        · refine if_pos_of (by rw [decide_eq_false c2]; decide) ?_
          have e : okLetters z = false := by
            unfold okLetters
            rw [decide_eq_false (by omega)]
            rfl
          rw [e] at q
          exact q H (Grows.refl H)
      · refine if_neg_of (by rw [decide_eq_false c1]; decide) ⟨false, rfl, if_pos_of (by decide) ?_⟩
        have e : okLetters z = false := by
          unfold okLetters
          rw [decide_eq_false (by omega)]
          rfl
        rw [e] at q
        exact q H (Grows.refl H)
    · refine ⟨_, rfl, x, .ty "str", .type t, .type "str", false, rfl, .ty "str", ty, kit_ty hk, false, rfl, ?_⟩
      exact q
end
end SWL
set_option Elab.async false
set_option linter.all false
set_option maxRecDepth 100000
set_option maxHeartbeats 4000000
namespace SWL
open PySem PySem.Spec PyProof.Rows L2 LamX
abbrev veB : List Value := [.type "ValueError", .type "Exception", .type "BaseException", .type "object"]
/-- an exception class of the text -/
structure ErrC (K : PySem.W.Frag) (mg : Str → Option Value) (x : Str) (C CS : Addr) : Prop where
  gC : mg x = some (.ref C)
  xC : PySem.W.excIn K C veB "ValueError.__new__" = true
  kC : PySem.W.keepIn K (.ref C) = true
  bC : PySem.W.subIn K (.ref C) (.type "BaseException") = some true
  tC : PySem.W.typeIn K (.ref C) = some (.type "type")
  eC : PySem.W.exmOne K (.ref C) (.ref CS) = some true
/-- a def of the text, by its name -/
structure Def (mg : Str → Option Value) (K : PySem.W.Frag) (x : Str) (f : Addr) (fd : FuncData) (ps : List Str) : Prop where
  g : mg x = some (.ref f)
  k : PySem.W.keepIn K (.ref f) = true
  b : L2.Binds K fd ps []
def spNeedL (K : PySem.W.Frag) (CN : Addr) : Sp := fun vs H Q E => ∃ x, vs = [x] ∧ ((∃ z, x = .str z ∧ z.length ≤ sizeLine ∧ ∀ H', Grows H H' → (okLetters z = true → Q .non H') ∧ (okLetters z = false → E (.ref CN) none H')) ∨ (NotStr K H x ∧ E (.ref CN) none H))
def okWord (ls z : Str) (m : Int) : Bool := decide ((z.length : Int) ≤ m) && z.cps.toList.all fun c => decide (c ∈ ls.cps.toList)
def spIsW (K : PySem.W.Frag) : Sp := fun vs H Q _ => ∃ ls x m, vs = [.str ls, x, .int m] ∧ ((∃ z, x = .str z ∧ z.length ≤ sizeLine ∧ ∀ H', Grows H H' → Q (.bl (okWord ls z m)) H') ∨ (NotStr K H x ∧ Q (.bl false) H))
def spNeedW (K : PySem.W.Frag) (CW : Addr) : Sp := fun vs H Q E => ∃ ls x m, vs = [.str ls, x, .int m] ∧ ((∃ z, x = .str z ∧ z.length ≤ sizeLine ∧ ∀ H', Grows H H' → (okWord ls z m = true → Q .non H') ∧ (okWord ls z m = false → E (.ref CW) none H')) ∨ (NotStr K H x ∧ E (.ref CW) none H))
def spOrd : Sp := fun vs H Q _ => ∃ z, vs = [.str z] ∧ z.length ≤ sizeLine ∧ ∀ p, H p = none → Q (.ref p) (upd H p (.tup [.int z.length, .str z]))
def inLs (ls : Str) (v : V) : V := .bl (decide (sign0 v ∈ ls.cps.toList))
section
variable {P : Program} {w : World} {K : PySem.W.Frag} {mg : Str → Option Value} {base : Heap}
theorem scNeedL : FnScope ["thing"] ["thing"] (defScope sNeedL) := ⟨rfl, rfl, rfl, by decide +kernel, rfl, by decide +kernel, by decide +kernel⟩
theorem ok_needL {f f1 CN CS : Addr} {fd fd1 : FuncData} (F : L2.Fun K "need_letters" "need_letters" sNeedL f fd) (G : FnOk P w K mg base CX0 2 f1 fd1 ["thing"] (spIsL K)) (D : Def mg K "is_letters" f1 fd1 ["thing"]) (EN : ErrC K mg "NoLetters" CN CS) :
    FnOk P w K mg base (L2.CX P w) 3 f fd ["thing"] (spNeedL K CN) := by
  refine F.okX scNeedL (fun vs H Q E h => ?_) (fun cdv A outer s H vs Q E hr h => ⟨_,
    pss_one (ps_if (pt_not (pt_truth (pe_call G hr (by rfl) D.g D.k D.b .nil pass0 (pa_cons (pv 0) pa_nil)) (by intro _; rfl)))
      (pss_one (ps_raise rfl (takes_of rfl rfl rfl rfl) (pmk_own PySem.F.excBase_ValueError EN.xC EN.gC EN.kC (raises_own EN.bC EN.tC) rfl))) pss_nil), ?_⟩)
  · obtain ⟨x, rfl, _⟩ := h
    rfl
  · obtain ⟨x, rfl, h⟩ := h
    refine ⟨_, rfl, x, rfl, ?_⟩
    rcases h with ⟨z, rfl, hz, q⟩ | ⟨n, q⟩
    · refine .inl ⟨z, rfl, hz, fun H' g => ?_⟩
      obtain ⟨q1, q2⟩ := q H' g
      cases e : okLetters z with
      | true => exact ⟨true, rfl, if_neg_of (by decide) (q1 e)⟩
      | false => exact ⟨false, rfl, if_pos_of (by decide) (q2 e)⟩
    · exact .inr ⟨n, false, rfl, if_pos_of (by decide) q⟩
theorem scIsW : FnScope ["letters", "thing", "most", "sign"] ["letters", "thing", "most"] (defScope sIsW) := ⟨rfl, rfl, rfl, by decide +kernel, rfl, by decide +kernel, by decide +kernel⟩
theorem ok_isW {f : Addr} {fd : FuncData} (F : L2.Fun K "is_word_to" "is_word_to" sIsW f fd) (B : Blt mg) : FnOk P w K mg base CX0 2 f fd ["letters", "thing", "most"] (spIsW K) := by
  refine F.ok scIsW (fun vs H Q E h => ?_) (fun cdv A outer s H vs Q E hr h => ⟨_,
    pss_one (ps_ret (pe_and (pe_callB call_isi (by rfl) B.isi (by decide +kernel) (pa_cons (pv 1) (pa_cons (pe_bltn (u := .type "str") (v := .ty "str") (by rfl) B.str (by decide +kernel) rfl) pa_nil)))
      (pe_and (pe_cmpR op_le (pe_callB call_len_str (by rfl) B.len PySem.boot_len (pa_cons (pv 1) pa_nil)) (pv 2) rfl)
      (pe_one (pe_callB (cr_all rfl) (by rfl) B.all (by decide +kernel) (pa_cons (pe_lc (own := [("sign", 3)]) (g := gName 3) (tt := tYes) rfl scIsW.nd (pi_str (pv 1)) (blkOk_by (N := ["letters", "thing", "most", "sign"]) (sc := defScope sIsW) (by decide +kernel)) (fun _ _ _ _ _ => pg_name (i := 3) scIsW.nd rfl (Or.inl rfl)) (fun _ _ _ _ _ => pts_nil)
        (fun _ _ _ _ _ => pe_cmpR op_inS (pv 3) (pv 0) rfl)) pa_nil)))))), ?_⟩)
  · obtain ⟨ls, x, m, rfl, _⟩ := h
    rfl
  · obtain ⟨ls, x, m, rfl, h⟩ := h
    rcases h with ⟨z, rfl, hz, q⟩ | ⟨⟨t, ty, hk⟩, q⟩
    · refine ⟨_, rfl, .str z, .ty "str", .type "str", .type "str", true, rfl, .ty "str", .base (.str z), kit_ty (by decide +kernel), true, rfl, if_pos_of rfl ?_⟩
      refine ⟨_, rfl, z, rfl, hz, _, rfl, _, _, rfl, rfl, decide ((z.length : Int) ≤ m), rfl, ?_⟩
      by_cases c1 : (z.length : Int) ≤ m
      · refine if_pos_of (decide_eq_true c1) ?_
        refine ⟨_, rfl, z, rfl, fun D nD => comp (xs := signsV z) (walk_signs z) (fun _ => true) (inLs ls) nD (fun _ _ => trivial) (by rw [signs_len]; exact hz) (fun x H k _ g hk => hk H (Grows.refl H)) (fun x H Q hx _ g hq => ?_) (fun H2 g2 hD => ?_)⟩
        · obtain ⟨c, hc, rfl⟩ := signs_mem hx
          exact ⟨_, rfl, _, rfl, c, ls, rfl, rfl, hq _ (Grows.refl _)⟩
        · rw [filter_yes] at hD
          refine ⟨D, z.cps.toList.map fun c => decide (c ∈ ls.cps.toList), rfl, .inl (.inl (hD.trans ?_)), ?_⟩
          · unfold signsV
            rw [List.map_map, List.map_map]
            rfl
          · have e1 : (z.cps.toList.map fun c => decide (c ∈ ls.cps.toList)).all id = okWord ls z m := by
              unfold okWord
              rw [decide_eq_true c1, List.all_map, Bool.true_and]
              rfl
            rw [e1]
            exact q H2 g2
      · refine if_neg_of (by rw [decide_eq_false c1]; decide) ?_
        have e : okWord ls z m = false := by
          unfold okWord
          rw [decide_eq_false c1]
          rfl
        rw [e] at q
        exact q H (Grows.refl H)
    · exact ⟨_, rfl, x, .ty "str", .type t, .type "str", false, rfl, .ty "str", ty, kit_ty hk, false, rfl, if_neg_of (by decide) q⟩
theorem scNeedW : FnScope ["letters", "thing", "most"] ["letters", "thing", "most"] (defScope sNeedW) := ⟨rfl, rfl, rfl, by decide +kernel, rfl, by decide +kernel, by decide +kernel⟩
theorem ok_needW {f f1 CW CS : Addr} {fd fd1 : FuncData} {kws : List (Str × V)} (F : FunD K "need_word" "need_word" (defArgs sNeedW) (defBody sNeedW) (defScope sNeedW) [] kws f fd) (G : FnOk P w K mg base CX0 2 f1 fd1 ["letters", "thing", "most"] (spIsW K)) (D : Def mg K "is_word_to" f1 fd1 ["letters", "thing", "most"]) (EN : ErrC K mg "NoWord" CW CS) :
    FnOk P w K mg base (L2.CX P w) 3 f fd ["letters", "thing", "most"] (spNeedW K CW) := by
  refine F.ok (CX := L2.CX P w) scNeedW (fun vs H Q E h => ?_) (fun cdv A outer s H vs Q E hr h => ⟨_,
    pss_one (ps_if (pt_not (pt_truth (pe_call G hr (by rfl) D.g D.k D.b .nil pass0 (pa_cons (pv 0) (pa_cons (pv 1) (pa_cons (pv 2) pa_nil)))) (by intro _; rfl)))
      (pss_one (ps_raise rfl (takes_of rfl rfl rfl rfl) (pmk_own PySem.F.excBase_ValueError EN.xC EN.gC EN.kC (raises_own EN.bC EN.tC) rfl))) pss_nil), ?_⟩)
  · obtain ⟨ls, x, m, rfl, _⟩ := h
    rfl
  · obtain ⟨ls, x, m, rfl, h⟩ := h
    refine ⟨_, rfl, _, rfl, _, rfl, ls, x, m, rfl, ?_⟩
    rcases h with ⟨z, rfl, hz, q⟩ | ⟨n, q⟩
    · refine .inl ⟨z, rfl, hz, fun H' g => ?_⟩
      obtain ⟨q1, q2⟩ := q H' g
      cases e : okWord ls z m with
      | true => exact ⟨true, rfl, if_neg_of (by decide) (q1 e)⟩
      | false => exact ⟨false, rfl, if_pos_of (by decide) (q2 e)⟩
    · exact .inr ⟨n, false, rfl, if_pos_of (by decide) q⟩
theorem scOrd : FnScope ["word"] ["word"] (defScope sOrd) := ⟨rfl, rfl, rfl, by decide +kernel, rfl, by decide +kernel, by decide +kernel⟩
theorem ok_ord {f : Addr} {fd : FuncData} (F : L2.Fun K "order_of" "order_of" sOrd f fd) (B : Blt mg) : FnOk P w K mg base CX0 1 f fd ["word"] spOrd := by
  refine F.ok scOrd (fun vs H Q E h => ?_) (fun cdv A outer s H vs Q E hr h => ⟨_, pss_one (ps_ret (pe_tup (pa_cons (pe_callB call_len_str (by rfl) B.len PySem.boot_len (pa_cons (pv 0) pa_nil)) (pa_cons (pv 0) pa_nil)))), ?_⟩)
  · obtain ⟨z, rfl, _⟩ := h
    rfl
  · obtain ⟨z, rfl, hz, q⟩ := h
    exact ⟨_, rfl, z, rfl, hz, _, rfl, by show 2 ≤ sizeLine; decide, fun p hp => q p hp⟩
end
end SWL
set_option Elab.async false
set_option linter.all false
set_option maxRecDepth 100000
set_option maxHeartbeats 4000000
namespace SWL
open PySem PySem.Spec PyProof.Rows L2 LamX
/-! the order, the strewn words -/
def ordD : V → PyData
  | .str z => .tuple [.int z.length, .str z]
  | _ => .tuple [.int 0, .int 0]
def leV : V → V → Bool := PySem.W.dataLe false ordD
theorem ordD_depth (x : V) : (ordD x).depth ≤ 50 := by
  cases x <;> (unfold ordD; simp [PyData.depth, PyData.depthAll])
theorem alike_ords (ws : List Str) : PySem.W.AllAlike ((ws.map V.str).map ordD) := by
  intro d hd d' hd'
  rw [List.map_map] at hd hd'
  obtain ⟨z, _, rfl⟩ := List.mem_map.mp hd
  obtain ⟨z', _, rfl⟩ := List.mem_map.mp hd'
  rfl
theorem sortable_ords (ws : List Str) : PySem.W.Sortable ((ws.map V.str).map ordD) := by
  refine .inl fun d hd => ?_
  rw [List.map_map] at hd
  obtain ⟨z, _, rfl⟩ := List.mem_map.mp hd
  exact ⟨_, _, rfl⟩
/-- where the word's pointer stands behind a sign -/
def adv (w : List Nat) (i : Nat) (c : Nat) : Nat := if w[i]? = some c then i + 1 else i
def strewnB (a b : Str) : Bool := decide (b.cps.toList.foldl (adv a.cps.toList) 0 = a.length)
def stepF (found : List Str) (w : Str) : List Str := if found.any (fun o => strewnB o w) = true then found else found ++ [w]
def leastF (ws : List Str) : List Str := ws.foldl stepF []
/-- sorted by length, then by text -/
def sortW (ws : List Str) : List Str := ws.mergeSort fun a b => leV (.str a) (.str b)
theorem sortW_map (ws : List Str) : (ws.map V.str).mergeSort leV = (sortW ws).map V.str := (PySem.W.sort_maps V.str fun _ _ _ _ => rfl).symm
def spInO (K : PySem.W.Frag) : Sp := fun vs H Q _ => ∃ (a : Addr) (ws : List Str), vs = [.ref a] ∧ Sq K H a (ws.map V.str) ∧ (∀ z ∈ ws, z.length ≤ sizeLine) ∧ ∀ H' p, Grows H H' → H' p = some (.lst ((sortW ws).map V.str)) → Q (.ref p) H'
def spIsS : Sp := fun vs H Q _ => ∃ a b : Str, vs = [.str a, .str b] ∧ a.length ≤ sizeLine ∧ b.length ≤ sizeLine ∧ Q (.bl (strewnB a b)) H
section
variable {P : Program} {w : World} {K : PySem.W.Frag} {mg : Str → Option Value} {base : Heap}
theorem scInO : FnScope ["words"] ["words"] (defScope sInO) := ⟨rfl, rfl, rfl, by decide +kernel, rfl, by decide +kernel, by decide +kernel⟩
theorem ok_inO {f f1 : Addr} {fd fd1 : FuncData} (F : L2.Fun K "in_order" "in_order" sInO f fd) (B : Blt mg) (G : FnOk P w K mg base CX0 1 f1 fd1 ["word"] spOrd) (D : Def mg K "order_of" f1 fd1 ["word"]) : FnOk P w K mg base CX0 4 f fd ["words"] (spInO K) := by
  refine F.ok scInO (fun vs H Q E h => ?_) (fun cdv A outer s H vs Q E hr h => ⟨_, pss_one (ps_ret (pe_callBK (crk_sortedKey G D.b hr) (by rfl) B.sorted (by decide +kernel) (pa_cons (pv 0) pa_nil) (pk_cons (pe_glob (v := .ref f1) (by rfl) D.g rfl) pk_nil))), ?_⟩)
  · obtain ⟨a, ws, rfl, _⟩ := h
    rfl
  · obtain ⟨a, ws, rfl, hs, hz, q⟩ := h
    refine ⟨_, rfl, a, ws.map V.str, ordD, rfl, rfl, hs, fun x hx H1 g => ?_, alike_ords ws, sortable_ords ws, fun x _ => ordD_depth x, fun H1 p g hp => ?_⟩
    · obtain ⟨z, hz', rfl⟩ := List.mem_map.mp hx
      refine ⟨z, rfl, hz z hz', fun p hp => ⟨Grows.new hp, ?_⟩⟩
      exact .tup (.inl (.inl upd_same)) (.cons (.int _) (.cons (.str _) .nil))
    · refine q _ p (g.trans (Grows.new hp)) ?_
      rw [upd_same]
      show some (HO.lst ((ws.map V.str).mergeSort leV)) = _
      rw [sortW_map]
theorem scIsS : FnScope ["word", "other", "at", "letter"] ["word", "other"] (defScope sIsS) := ⟨rfl, rfl, rfl, by decide +kernel, rfl, by decide +kernel, by decide +kernel⟩
theorem adv_cut (a : Str) (i : Nat) (c : Nat) (hi : i ≤ a.length) : (cutS a (some (i : Int)) (some ((i : Int) + 1)) = (⟨#[c]⟩ : Str)) ↔ a.cps.toList[i]? = some c := by
  have hn : a.cps.toList.length = a.length := cut_len a
  have h1 : HT.sIx a.length 0 (some (i : Int)) = i := (HT.sIx_nat _ _ i).trans (Nat.min_eq_left hi)
  have h2 : HT.sIx a.length a.length (some ((i : Int) + 1)) = min (i + 1) a.length := HT.sIx_nat _ _ (i + 1)
  have e : cutS a (some (i : Int)) (some ((i : Int) + 1)) = ⟨((a.cps.toList.drop i).take (min (i + 1) a.length - i)).toArray⟩ := by
    unfold cutS
    rw [h1, h2]
  rw [e]
  have key : ((⟨((a.cps.toList.drop i).take (min (i + 1) a.length - i)).toArray⟩ : Str) = ⟨#[c]⟩) ↔ (a.cps.toList.drop i).take (min (i + 1) a.length - i) = [c] := by
    constructor
    · intro h
      have := congrArg (fun z : Str => z.cps.toList) h
      simpa using this
    · intro h
      rw [h]
  rw [key]
  by_cases hlt : i < a.length
  · have e1 : min (i + 1) a.length - i = 1 := by omega
    rw [e1, List.take_one, List.head?_drop]
    cases h : a.cps.toList[i]? with
    | none => simp
    | some d => simp
  · have e1 : min (i + 1) a.length - i = 0 := by omega
    have e2 : a.cps.toList[i]? = none := List.getElem?_eq_none (by omega)
    rw [e1, e2]
    simp
theorem adv_le (l : List Nat) : ∀ (cs : List Nat) (i : Nat), i ≤ l.length → cs.foldl (adv l) i ≤ l.length
  | [], i, h => h
  | c :: cs, i, h => by
    refine adv_le l cs _ ?_
    unfold adv
    split
    · rename_i e
      have := (List.getElem?_eq_some_iff.mp e).1
      omega
    · exact h
theorem ok_isS {f : Addr} {fd : FuncData} (F : L2.Fun K "is_strewn" "is_strewn" sIsS f fd) (B : Blt mg) : FnOk P w K mg base CX0 1 f fd ["word", "other"] spIsS := by
  refine F.ok scIsS (fun vs H Q E h => ?_) (fun cdv A outer s H vs Q E hr h => ⟨_,
    pss_cons (ps_set (i := 2) scIsS.nd rfl (Or.inl rfl) pe_int)
    (pss_cons (ps_for PassesOwn.never rfl (pi_str (pv 1)) (pg_name (i := 3) scIsS.nd rfl (Or.inl rfl))
      (pss_one (ps_if (pt_cmpR op_eq (pe_slice sl_str (pv 0) (po_some (pv 2)) (po_some (pe_op op_add (pv 2) pe_int))) (pv 3) (nomark _)) (pss_one (ps_aug (i := 2) scIsS.nd rfl (Or.inl rfl) pe_int ip_add)) pss_nil)))
    (pss_one (ps_ret (pe_cmpR op_eq (pv 2) (pe_callB call_len_str (by rfl) B.len PySem.boot_len (pa_cons (pv 0) pa_nil)) (nomark _))))), ?_⟩)
  · obtain ⟨a, b, rfl, _⟩ := h
    rfl
  · obtain ⟨a, b, rfl, ha, hb, q⟩ := h
    refine ⟨_, rfl, b, rfl, for_it walk_str (fun i σ H' => H' = H ∧ ∃ v : Option V, σ = [some (.str a), some (.str b), some (.int ((b.cps.toList.take i).foldl (adv a.cps.toList) 0 : Nat)), v]) ⟨rfl, none, rfl⟩ (fun _ _ _ _ _ => trivial) ?_ ?_⟩
    · rintro i x σ H1 H' hi ⟨rfl, v, rfl⟩ ⟨rfl, c, hc, rfl⟩
      have hc' : b.cps.toList[i]? = some c := by rw [Array.getElem?_toList]; exact hc
      have ht : (b.cps.toList.take (i + 1)).foldl (adv a.cps.toList) 0 = adv a.cps.toList ((b.cps.toList.take i).foldl (adv a.cps.toList) 0) c := by
        rw [take_snoc hc', List.foldl_append]
        rfl
      generalize hat : (b.cps.toList.take i).foldl (adv a.cps.toList) 0 = at_ at ht ⊢
      have hle : at_ ≤ a.length := by
        rw [← hat, ← cut_len]
        exact adv_le _ _ _ (Nat.zero_le _)
      refine ⟨_, rfl, _, rfl, _, rfl, _, rfl, _, _, rfl, rfl, _, rfl, a, rfl, ha, _, rfl, rfl, _, rfl, ?_⟩
      by_cases hcut : cutS a (some (at_ : Int)) (some ((at_ : Int) + 1)) = (⟨#[c]⟩ : Str)
      · refine if_pos_of (decide_eq_true (congrArg V.str hcut)) ?_
        have e : adv a.cps.toList at_ c = at_ + 1 := if_pos ((adv_cut a at_ c hle).mp hcut)
        rw [e] at ht
        refine ⟨_, rfl, _, _, rfl, rfl, rfl, some (.str ⟨#[c]⟩), ?_⟩
        rw [ht]
        rfl
      · refine if_neg_of (by rw [decide_eq_false (fun z => hcut (V.str.inj z))]; decide) ?_
        have e : adv a.cps.toList at_ c = at_ := if_neg fun z => hcut ((adv_cut a at_ c hle).mpr z)
        rw [e] at ht
        refine ⟨rfl, some (.str ⟨#[c]⟩), ?_⟩
        rw [ht]
        rfl
    · rintro σ H' ⟨rfl, v, rfl⟩
      have et : b.cps.toList.take b.cps.size = b.cps.toList := List.take_of_length_le (by rw [Array.length_toList]; exact Nat.le_refl _)
      rw [et]
      refine ⟨_, rfl, _, rfl, a, rfl, ha, rfl, ?_⟩
      have e : decide (V.int ((b.cps.toList.foldl (adv a.cps.toList) 0 : Nat) : Int) = V.int (a.length : Int)) = strewnB a b := by
        unfold strewnB
        refine decide_eq_decide.mpr ⟨fun z => ?_, fun z => by rw [z]⟩
        have := V.int.inj z
        omega
      rw [e]
      exact q
end
end SWL
set_option Elab.async false
set_option linter.all false
set_option maxRecDepth 100000
set_option maxHeartbeats 4000000
namespace SWL
open PySem PySem.Spec PyProof.Rows L2 LamX
theorem passE0 {P : Program} {w : World} {X : Cx} (hP : X.prog = P) (hw : X.w = w) : Passes (L2.CX P w) X E0 := fun pins σ H s e s' I c => by
  obtain ⟨_, _, _, _, _, _, _, _, _, _, _, _, z⟩ := c
  exact z.elim
theorem pi_or {X : Cx} {tg it : Expr} {w1 w2 : TI} (h1 : PI X tg it w1) (h2 : PI X tg it w2) : PI X tg it (fun σ H R => w1 σ H R ∨ w2 σ H R) :=
  ⟨fun pins s σ H R I h => h.elim (h1.run pins s σ H R I) (h2.run pins s σ H R I)⟩
theorem mem_take_len {α : Type} {l : List α} {n : Nat} : (l.take n).length ≤ l.length := by rw [List.length_take]; omega
theorem stepF_len (f : List Str) (w : Str) : (stepF f w).length ≤ f.length + 1 := by
  unfold stepF
  split
  · omega
  · rw [List.length_append]
    exact Nat.le_refl _
theorem leastF_len : ∀ ws : List Str, (leastF ws).length ≤ ws.length := by
  have gen : ∀ (ws f : List Str), (ws.foldl stepF f).length ≤ f.length + ws.length := by
    intro ws
    induction ws with
    | nil => intro f; exact Nat.le_refl _
    | cons w ws ih =>
      intro f
      have h1 := ih (stepF f w)
      have h2 := stepF_len f w
      rw [List.foldl_cons, List.length_cons]
      omega
  intro ws
  have := gen ws []
  simpa [leastF] using this
theorem leastF_snoc (ws : List Str) (w : Str) : leastF (ws ++ [w]) = stepF (leastF ws) w := by
  unfold leastF
  rw [List.foldl_append]
  rfl
theorem stepF_mem {f : List Str} {w z : Str} (h : z ∈ stepF f w) : z ∈ f ∨ z = w := by
  unfold stepF at h
  split at h
  · exact .inl h
  · rcases List.mem_append.mp h with q | q
    · exact .inl q
    · exact .inr (List.mem_singleton.mp q)
theorem leastF_mem : ∀ (ws : List Str) {z : Str}, z ∈ leastF ws → z ∈ ws := by
  have gen : ∀ (ws f : List Str) {z : Str}, z ∈ ws.foldl stepF f → z ∈ f ∨ z ∈ ws := by
    intro ws
    induction ws with
    | nil => intro f z h; exact .inl h
    | cons w ws ih =>
      intro f z h
      rcases ih _ h with q | q
      · rcases stepF_mem q with q | q
        · exact .inl q
        · rw [q]
          exact .inr List.mem_cons_self
      · exact .inr (List.mem_cons_of_mem _ q)
  intro ws z h
  rcases gen ws [] h with q | q
  · cases q
  · exact q
def spStrewn : Sp := fun vs H Q _ => ∃ ls a b : Str, vs = [.str ls, .str a, .str b] ∧ okLetters ls = true ∧ ls.length ≤ sizeLine ∧ okWord ls a 20000 = true ∧ okWord ls b 20000 = true ∧ a.length ≤ sizeLine ∧ b.length ≤ sizeLine ∧ ∀ H', Grows H H' → Q (.bl (strewnB a b)) H'
def spAmong (K : PySem.W.Frag) : Sp := fun vs H Q _ => ∃ (a : Addr) (ws : List Str), vs = [.ref a] ∧ SqL K H a (ws.map V.str) ∧ ws.length ≤ sizeLine ∧ (∀ z ∈ ws, z.length ≤ sizeLine) ∧ ∀ H' p, Grows H H' → H' p = some (.lst ((leastF ws).map V.str)) → Q (.ref p) H'
/-- a def whose last parameter, of a default, is 20000 -/
structure DefW (mg : Str → Option Value) (K : PySem.W.Frag) (x : Str) (f : Addr) (fd : FuncData) (ps : List Str) : Prop where
  g : mg x = some (.ref f)
  k : PySem.W.keepIn K (.ref f) = true
  b : ∃ ds, Vals [V.int 20000] ds ∧ L2.Binds K fd ps ds
section
variable {P : Program} {w : World} {K : PySem.W.Frag} {mg : Str → Option Value} {base : Heap}
theorem scStr : FnScope ["letters", "word", "other"] ["letters", "word", "other"] (defScope sStr) := ⟨rfl, rfl, rfl, by decide +kernel, rfl, by decide +kernel, by decide +kernel⟩
theorem ok_str {f f1 f2 f3 CN CW : Addr} {fd fd1 fd2 fd3 : FuncData} (F : L2.Fun K "strewn" "strewn" sStr f fd)
    (G1 : FnOk P w K mg base (L2.CX P w) 3 f1 fd1 ["thing"] (spNeedL K CN)) (D1 : Def mg K "need_letters" f1 fd1 ["thing"])
    (G2 : FnOk P w K mg base (L2.CX P w) 3 f2 fd2 ["letters", "thing", "most"] (spNeedW K CW)) (D2 : DefW mg K "need_word" f2 fd2 ["letters", "thing", "most"])
    (G3 : FnOk P w K mg base CX0 1 f3 fd3 ["word", "other"] spIsS) (D3 : Def mg K "is_strewn" f3 fd3 ["word", "other"]) : FnOk P w K mg base CX0 4 f fd ["letters", "word", "other"] spStrewn := by
  obtain ⟨ds, vd, bd⟩ := D2.b
  refine F.ok scStr (fun vs H Q E h => ?_) (fun cdv A outer s H vs Q E hr h => ⟨_,
    pss_cons (ps_expr (pe_call G1 hr (by rfl) D1.g D1.k D1.b .nil (passE0 rfl rfl) (pa_cons (pv 0) pa_nil)))
    (pss_cons (ps_expr (pe_call G2 hr (by rfl) D2.g D2.k bd vd (passE0 rfl rfl) (pa_cons (pv 0) (pa_cons (pv 1) pa_nil))))
    (pss_cons (ps_expr (pe_call G2 hr (by rfl) D2.g D2.k bd vd (passE0 rfl rfl) (pa_cons (pv 0) (pa_cons (pv 2) pa_nil))))
    (pss_one (ps_ret (pe_call G3 (hr.mono (by decide)) (by rfl) D3.g D3.k D3.b .nil pass0 (pa_cons (pv 1) (pa_cons (pv 2) pa_nil))))))), ?_⟩)
  · obtain ⟨ls, a, b, rfl, _⟩ := h
    rfl
  · obtain ⟨ls, a, b, rfl, h1, h2, h3, h4, h5, h6, q⟩ := h
    refine ⟨_, rfl, _, rfl, .inl ⟨ls, rfl, h2, fun H1 g1 => ⟨fun _ => ?_, fun z => by rw [h1] at z; cases z⟩⟩⟩
    refine ⟨_, rfl, _, rfl, ls, _, _, rfl, .inl ⟨a, rfl, h5, fun H2 g2 => ⟨fun _ => ?_, fun z => by rw [h3] at z; cases z⟩⟩⟩
    refine ⟨_, rfl, _, rfl, ls, _, _, rfl, .inl ⟨b, rfl, h6, fun H3 g3 => ⟨fun _ => ?_, fun z => by rw [h4] at z; cases z⟩⟩⟩
    exact ⟨_, rfl, _, rfl, a, b, rfl, h5, h6, q H3 ((g1.trans g2).trans g3)⟩
theorem scAmong : FnScope ["words", "found", "word", "one"] ["words"] (defScope sAmong) := ⟨rfl, rfl, rfl, by decide +kernel, rfl, by decide +kernel, by decide +kernel⟩
theorem ok_among {f f3 : Addr} {fd fd3 : FuncData} (F : L2.Fun K "least_among" "least_among" sAmong f fd) (B : Blt mg)
    (G3 : FnOk P w K mg base CX0 1 f3 fd3 ["word", "other"] spIsS) (D3 : Def mg K "is_strewn" f3 fd3 ["word", "other"]) : FnOk P w K mg base CX0 3 f fd ["words"] (spAmong K) := by
  refine F.ok scAmong (fun vs H Q E h => ?_) (fun cdv A outer s H vs Q E hr h => ⟨_,
    pss_cons (ps_set (i := 1) scAmong.nd rfl (Or.inl rfl) (pe_lst pa_nil))
    (pss_cons (ps_for PassesOwn.never rfl (pi_list (pv 0)) (pg_name (i := 2) scAmong.nd rfl (Or.inr rfl))
      (pss_one (ps_if (pt_not (pt_truth (pe_callB (cr_any rfl) (by rfl) B.any (by decide +kernel) (pa_cons
          (pe_lc (own := [("one", 3)]) (g := gName 3) (tt := tYes) rfl scAmong.nd (pi_list (pv 1)) (blkOk_by (N := ["words", "found", "word", "one"]) (sc := defScope sAmong) (by decide +kernel)) (fun _ _ _ _ _ => pg_name (i := 3) scAmong.nd rfl (Or.inl rfl)) (fun _ _ _ _ _ => pts_nil)
            (fun _ _ _ _ _ => pe_call G3 (hr.mono (by decide)) (by rfl) D3.g D3.k D3.b .nil pass0 (pa_cons (pv 3) (pa_cons (pv 2) pa_nil)))) pa_nil)) (by intro _; rfl)))
        (pss_one (ps_expr (pe_bm PySem.F.plainAttrs_list PySem.F.slot_list_append PySem.F.type_list_append mt_append (pv 1) (pa_cons (pv 2) pa_nil)))) pss_nil)))
    (pss_one (ps_ret (pv 1)))), ?_⟩)
  · obtain ⟨a, ws, rfl, _⟩ := h
    rfl
  · obtain ⟨a, ws, rfl, hs, hn, hz, q⟩ := h
    refine ⟨by show 0 ≤ sizeLine; decide, fun p np => ?_⟩
    refine ⟨_, rfl, a, rfl, ⟨_, (Grows.new np).l hs⟩, for_list (K := K) (a := a) (xs := ws.map V.str) (fun i σ H' => Grows H H' ∧ H' p = some (.lst ((leastF (ws.take i)).map V.str)) ∧ ∃ v1 v2 : Option V, σ = [some (.ref a), some (.ref p), v1, v2]) ⟨Grows.new np, by rw [upd_same]; rfl, none, none, rfl⟩ (fun i σ H' _ ⟨g, _⟩ => g.l hs) ?_ ?_⟩
    · rintro i x σ H1 hi ⟨g, hp, v1, v2, rfl⟩
      rw [List.getElem?_map] at hi
      obtain ⟨z, hzi, rfl⟩ : ∃ z, ws[i]? = some z ∧ x = .str z := by
        cases e : ws[i]? with
        | none => rw [e] at hi; cases hi
        | some z => rw [e] at hi; exact ⟨z, rfl, (Option.some.inj hi).symm⟩
      have hzm : z ∈ ws := List.mem_of_getElem? hzi
      have hF : leastF (ws.take (i + 1)) = stepF (leastF (ws.take i)) z := by rw [take_snoc hzi, leastF_snoc]
      have fm : ∀ o ∈ leastF (ws.take i), o ∈ ws := fun o ho => List.mem_of_mem_take (leastF_mem _ ho)
      have fl : (leastF (ws.take i)).length ≤ sizeLine := Nat.le_trans (leastF_len _) (Nat.le_trans mem_take_len hn)
      refine ⟨_, rfl, p, rfl, ⟨_, .inl (.inl hp)⟩, fun D nD => comp (xs := (leastF (ws.take i)).map V.str) walk_list (fun _ => true) (fun o => .bl (match o with | .str o => strewnB o z | _ => false)) nD (fun H g' => g'.l (.inl (.inl hp))) (by rw [List.length_map]; exact fl) (fun x H k _ g hk => hk H (Grows.refl H)) (fun x H Q hx _ g' hq => ?_) (fun H2 g2 hD => ?_)⟩
      · obtain ⟨o, ho, rfl⟩ := List.mem_map.mp hx
        exact ⟨_, rfl, _, rfl, o, z, rfl, hz _ (fm o ho), hz z hzm, hq H (Grows.refl H)⟩
      · rw [filter_yes] at hD
        refine ⟨D, (leastF (ws.take i)).map fun o => strewnB o z, rfl, .inl (.inl (hD.trans ?_)), _, rfl, ?_⟩
        · rw [List.map_map, List.map_map]
          rfl
        · have ea : ((leastF (ws.take i)).map fun o => strewnB o z).any id = (leastF (ws.take i)).any fun o => strewnB o z := by rw [List.any_map]; rfl
          rw [ea]
          have hp2 := g2 _ _ hp
          cases e : (leastF (ws.take i)).any fun o => strewnB o z with
          | true =>
            refine if_neg_of (by decide) ?_
            have e3 : stepF (leastF (ws.take i)) z = leastF (ws.take i) := if_pos e
            refine ⟨g.trans g2, ?_, some (.str z), v2, rfl⟩
            rw [hF, e3]
            exact hp2
          | false =>
            refine if_pos_of (by decide) ?_
            have e3 : stepF (leastF (ws.take i)) z = leastF (ws.take i) ++ [z] := if_neg (by rw [e]; decide)
            refine ⟨_, rfl, .inl ⟨rfl, _, .inl (.inl hp2)⟩, _, rfl, p, _, _, rfl, rfl, hp2, ?_, ?_⟩
            · rw [List.length_map]
              have h1 := leastF_len (ws.take i)
              have h2 : (ws.take i).length ≤ i := by rw [List.length_take]; omega
              have h3 := (List.getElem?_eq_some_iff.mp hzi).1
              omega
            · refine ⟨fun b u e => ?_, ?_, some (.str z), v2, rfl⟩
              · rw [upd_ne (ne_of_none e np)]
                exact g2 _ _ (g b u e)
              · rw [upd_same, hF, e3, List.map_append]
                rfl
    · rintro σ H' ⟨g, hp, v1, v2, rfl⟩
      rw [List.length_map, List.take_length] at hp
      exact ⟨_, rfl, q H' p g hp⟩
end
end SWL
set_option Elab.async false
set_option linter.all false
set_option maxRecDepth 100000
set_option maxHeartbeats 4000000
namespace SWL
open PySem PySem.Spec PyProof.Rows L2 LamX
theorem tyx_grows {K : PySem.W.Frag} {H H' : Hp} (g : Grows H H') {x : V} {t : Value} (h : TyX K H x t) : TyX K H' x t := by
  cases h with
  | base b =>
    cases b with
    | non => exact .base .non
    | bl y => exact .base (.bl y)
    | int i => exact .base (.int i)
    | str z => exact .base (.str z)
    | flt z => exact .base (.flt z)
    | lst e => exact .base (.lst (g _ _ e))
    | frz e => exact .base (.frz (g _ _ e))
    | tup e => exact .base (.tup (g _ _ e))
    | dK e => exact .base (.dK (g _ _ e))
    | dT e => exact .base (.dT (g _ _ e))
    | ins e cl ha hn ht hm => exact .base (.ins (g _ _ e) cl ha hn ht hm)
  | byt b => exact .byt b
  | set e => exact .set (g _ _ e)
  | kList e c => exact .kList e c
  | kTuple e c => exact .kTuple e c
  | kDict e c => exact .kDict e c
  | fTuple e => exact .fTuple (g _ _ e)
  | fDict e => exact .fDict (g _ _ e)
theorem NotStr.grows {K : PySem.W.Frag} {H H' : Hp} (g : Grows H H') {x : V} (h : NotStr K H x) : NotStr K H' x := by
  obtain ⟨t, h1, h2⟩ := h
  exact ⟨t, tyx_grows g h1, h2⟩
theorem ty_list {K : PySem.W.Frag} {H : Hp} {a : Addr} {xs : List V} (h : SqL K H a xs) : TyX K H (.ref a) (.type "list") := by
  rcases h with (h | ⟨o, h⟩) | ⟨o, its, n, h1, h2, _⟩
  · exact .base (.lst h)
  · exact .base (.frz h)
  · exact .kList h1 h2
theorem ty_tuple {K : PySem.W.Frag} {H : Hp} {a : Addr} {xs : List V} (h : SqT K H a xs) : TyX K H (.ref a) (.type "tuple") := by
  rcases h with (h | ⟨o, h⟩) | ⟨o, its, n, h1, h2, _⟩
  · exact .base (.tup h)
  · exact .fTuple h
  · exact .kTuple h1 h2
theorem ty_sq {K : PySem.W.Frag} {H : Hp} {a : Addr} {xs : List V} (h : Sq K H a xs) : ∃ t : String, TyX K H (.ref a) (.type t) ∧ PySem.W.kitAny K (.type t) [.type "list", .type "tuple"] = some true := by
  rcases h with h | h
  · exact ⟨"list", ty_list h, kitAny_cons (b := true) (kit_ty (by decide +kernel)) (fun z => by cases z) fun _ => rfl⟩
  · exact ⟨"tuple", ty_tuple h, kitAny_cons (b := false) (kit_ty (by decide +kernel)) (fun _ => kitAny_cons (b := true) (kit_ty (by decide +kernel)) (fun z => by cases z) fun _ => rfl) fun z => by cases z⟩
def NotSeq (K : PySem.W.Frag) (H : Hp) (x : V) : Prop := ∃ t : String, TyX K H x (.type t) ∧ kitB t "list" = some false ∧ kitB t "tuple" = some false
theorem NotSeq.grows {K : PySem.W.Frag} {H H' : Hp} (g : Grows H H') {x : V} (h : NotSeq K H x) : NotSeq K H' x := by
  obtain ⟨t, h1, h2⟩ := h
  exact ⟨t, tyx_grows g h1, h2⟩
theorem NotSeq.kit {K : PySem.W.Frag} {t : String} (h1 : kitB t "list" = some false) (h2 : kitB t "tuple" = some false) : PySem.W.kitAny K (.type t) [.type "list", .type "tuple"] = some false :=
  kitAny_cons (b := false) (kit_ty h1) (fun _ => kitAny_cons (b := false) (kit_ty h2) (fun _ => kitAny_nil) fun z => by cases z) fun z => by cases z
def BadW (K : PySem.W.Frag) (H : Hp) (ls : Str) (x : V) : Prop := NotStr K H x ∨ ∃ z, x = .str z ∧ z.length ≤ sizeLine ∧ okWord ls z 20000 = false
theorem BadW.grows {K : PySem.W.Frag} {H H' : Hp} (g : Grows H H') {ls : Str} {x : V} (h : BadW K H ls x) : BadW K H' ls x := h.imp (fun n => n.grows g) id
def BadL (K : PySem.W.Frag) (H : Hp) (x : V) : Prop := NotStr K H x ∨ ∃ z, x = .str z ∧ z.length ≤ sizeLine ∧ okLetters z = false
def okW (ls z : Str) : Prop := okWord ls z 20000 = true ∧ z.length ≤ sizeLine
def spLeast (K : PySem.W.Frag) (CN CW : Addr) : Sp := fun vs H Q E => ∃ x y, vs = [x, y] ∧ ((BadL K H x ∧ ∀ H', Grows H H' → E (.ref CN) none H') ∨
  ∃ ls, x = .str ls ∧ ls.length ≤ sizeLine ∧ okLetters ls = true ∧ ((NotSeq K H y ∧ ∀ H', Grows H H' → E (.ref CW) none H') ∨ ∃ a, y = .ref a ∧
    ((∃ ws : List Str, Sq K H a (ws.map V.str) ∧ ws.length ≤ sizeLine ∧ (∀ z ∈ ws, okW ls z) ∧ ∀ H' p, Grows H H' → H' p = some (.lst ((leastF (sortW ws)).map V.str)) → Q (.ref p) H') ∨
      ∃ (ws : List Str) (b : V) (r : List V), Sq K H a (ws.map V.str ++ b :: r) ∧ (∀ z ∈ ws, okW ls z) ∧ BadW K H ls b ∧ ∀ H', Grows H H' → E (.ref CW) none H')))
theorem sortW_mem {ws : List Str} {z : Str} : z ∈ sortW ws ↔ z ∈ ws := (List.mergeSort_perm _ _).mem_iff
theorem sortW_len (ws : List Str) : (sortW ws).length = ws.length := List.length_mergeSort ..
section
variable {P : Program} {w : World} {K : PySem.W.Frag} {mg : Str → Option Value} {base : Heap}
theorem scLeast : FnScope ["letters", "words", "word"] ["letters", "words"] (defScope sLeast) := ⟨rfl, rfl, rfl, by decide +kernel, rfl, by decide +kernel, by decide +kernel⟩
theorem ok_least {f f1 f2 f3 f4 CN CW CS : Addr} {fd fd1 fd2 fd3 fd4 : FuncData} (F : L2.Fun K "least_of" "least_of" sLeast f fd) (B : Blt mg) (EN : ErrC K mg "NoWord" CW CS)
    (G1 : FnOk P w K mg base (L2.CX P w) 3 f1 fd1 ["thing"] (spNeedL K CN)) (D1 : Def mg K "need_letters" f1 fd1 ["thing"])
    (G2 : FnOk P w K mg base (L2.CX P w) 3 f2 fd2 ["letters", "thing", "most"] (spNeedW K CW)) (D2 : DefW mg K "need_word" f2 fd2 ["letters", "thing", "most"])
    (G3 : FnOk P w K mg base CX0 3 f3 fd3 ["words"] (spAmong K)) (D3 : Def mg K "least_among" f3 fd3 ["words"])
    (G4 : FnOk P w K mg base CX0 4 f4 fd4 ["words"] (spInO K)) (D4 : Def mg K "in_order" f4 fd4 ["words"]) : FnOk P w K mg base (L2.CX P w) 5 f fd ["letters", "words"] (spLeast K CN CW) := by
  obtain ⟨ds, vd, bd⟩ := D2.b
  refine F.okX scLeast (fun vs H Q E h => ?_) (fun cdv A outer s H vs Q E hr h => ⟨_,
    pss_cons (ps_expr (pe_call G1 (hr.mono (by decide)) (by rfl) D1.g D1.k D1.b .nil (passes_call (takes_of rfl rfl rfl rfl) fun _ _ _ _ h => h) (pa_cons (pv 0) pa_nil)))
    (pss_cons (ps_if (pt_not (pt_truth (pe_callB call_isiT (by rfl) B.isi (by decide +kernel) (pa_cons (pv 1) (pa_cons (pe_tup (pa_cons (pe_bltn (u := .type "list") (v := .ty "list") (by rfl) B.list (by decide +kernel) rfl) (pa_cons (pe_bltn (u := .type "tuple") (v := .ty "tuple") (by rfl) B.tuple (by decide +kernel) rfl) pa_nil))) pa_nil))) (by intro _; rfl)))
      (pss_one (ps_raise rfl (takes_of rfl rfl rfl rfl) (pmk_own PySem.F.excBase_ValueError EN.xC EN.gC EN.kC (raises_own EN.bC EN.tC) rfl))) pss_nil)
    (pss_cons (ps_for (passes_of rfl) rfl (pi_or (pi_list (pv 1)) (pi_tup (pv 1))) (pg_name (i := 2) scLeast.nd rfl (Or.inl rfl))
      (pss_one (ps_expr (pe_call G2 (hr.mono (by decide)) (by rfl) D2.g D2.k bd vd (passes_call (takes_of rfl rfl rfl rfl) fun _ _ _ _ h => h) (pa_cons (pv 0) (pa_cons (pv 2) pa_nil))))))
    (pss_one (ps_ret (pe_call G3 (hr.mono (by decide)) (by rfl) D3.g D3.k D3.b .nil pass0 (pa_cons (pe_call G4 (hr.mono (by decide)) (by rfl) D4.g D4.k D4.b .nil pass0 (pa_cons (pv 1) pa_nil)) pa_nil)))))), ?_⟩)
  · obtain ⟨x, y, rfl, _⟩ := h
    rfl
  · obtain ⟨x, y, rfl, h⟩ := h
    refine ⟨_, rfl, x, rfl, ?_⟩
    rcases h with ⟨n | ⟨z, rfl, hz, hb⟩, q⟩ | ⟨ls, rfl, hls, hok, h⟩
    · exact .inr ⟨n, q H (Grows.refl H)⟩
    · exact .inl ⟨z, rfl, hz, fun H' g => ⟨fun e => (by rw [hb] at e; cases e), fun _ => q H' g⟩⟩
    · refine .inl ⟨ls, rfl, hls, fun H1 g1 => ⟨fun _ => ?_, fun e => (by rw [hok] at e; cases e)⟩⟩
      refine ⟨_, rfl, by show 2 ≤ sizeLine; decide, fun tp ntp => ?_⟩
      have gt : Grows H1 (upd H1 tp (.tup [.ty "list", .ty "tuple"])) := Grows.new ntp
      have g2 := g1.trans gt
      rcases h with ⟨⟨t, ty, k1, k2⟩, q⟩ | ⟨a, rfl, h⟩
      · exact ⟨y, tp, _, .type t, [.type "list", .type "tuple"], false, rfl, upd_same, .cons (.ty _) (.cons (.ty _) .nil), tyx_grows g2 ty, NotSeq.kit k1 k2, false, rfl, if_pos_of (by decide) (q _ g2)⟩
      · obtain ⟨ws, tl, hs0, hws, htl, hend⟩ : ∃ (ws : List Str) (tl : List V), Sq K H a (ws.map V.str ++ tl) ∧ (∀ z ∈ ws, okW ls z) ∧ (∀ b r, tl = b :: r → BadW K H ls b ∧ ∀ H', Grows H H' → E (.ref CW) none H') ∧ (tl = [] → ws.length ≤ sizeLine ∧ ∀ H' p, Grows H H' → H' p = some (.lst ((leastF (sortW ws)).map V.str)) → Q (.ref p) H') := by
          rcases h with ⟨ws, h1, h2, h3, h4⟩ | ⟨ws, b, r, h1, h2, h3, h4⟩
          · exact ⟨ws, [], by rw [List.append_nil]; exact h1, h3, fun b r z => (by cases z), fun _ => ⟨h2, h4⟩⟩
          · refine ⟨ws, b :: r, h1, h2, fun b' r' z => ?_, fun z => (by cases z)⟩
            cases z
            exact ⟨h3, h4⟩
        obtain ⟨t, ty, kt⟩ := ty_sq (g2.sq hs0)
        refine ⟨.ref a, tp, _, .type t, [.type "list", .type "tuple"], true, rfl, upd_same, .cons (.ty _) (.cons (.ty _) .nil), ty, kt, true, rfl, if_neg_of (by decide) ?_⟩
        generalize upd H1 tp (.tup [.ty "list", .ty "tuple"]) = H2 at g2
        have main : ∀ (J : It) (G : Hp → Prop), Walk J (ws.map V.str ++ tl).length G (YAt (ws.map V.str ++ tl)) → (∀ H', Grows H H' → G H') → _ := fun J G wk hG =>
          for_it wk (g := gName 2) (tb := tDrop (tCall (spNeedW K CW) [V.int 20000] E (tCons (tVar 0) (tCons (tVar 2) tNil)))) (σ := [some (.str ls), some (.ref a), none]) (H := H2)
            (D := { nx := tRet (tCall (spAmong K) [] E0 (tCons (tCall (spInO K) [] E0 (tCons (tVar 1) tNil)) tNil)) { nx := fun _ H' => Q .non H', rt := Q }, rt := Q })
            (fun i σ H' => Grows H H' ∧ i ≤ ws.length ∧ ∃ v : Option V, σ = [some (.str ls), some (.ref a), v]) ⟨g2, Nat.zero_le _, none, rfl⟩ (fun i σ H' _ ⟨g, _⟩ => hG H' g)
            (fun i x σ H1 H' hi ⟨g, hle, v, hv⟩ ⟨e, hx⟩ => by
              subst e hv
              refine ⟨_, rfl, _, rfl, ls, x, 20000, rfl, ?_⟩
              by_cases hlt : i < ws.length
              · rw [List.getElem?_append_left (by rw [List.length_map]; exact hlt), List.getElem?_map, List.getElem?_eq_getElem hlt] at hx
                have hx' := (Option.some.inj hx).symm
                have ok := hws _ (List.getElem_mem hlt)
                refine .inl ⟨ws[i], hx', ok.2, fun H3 g3 => ⟨fun _ => ⟨g.trans g3, hlt, _, rfl⟩, fun z => ?_⟩⟩
                rw [ok.1] at z
                cases z
              · have ei : i = ws.length := Nat.le_antisymm hle (Nat.le_of_not_lt hlt)
                rw [List.getElem?_append_right (by rw [List.length_map]; omega), List.length_map, ei, Nat.sub_self] at hx
                cases tl with
                | nil => cases hx
                | cons b r =>
                  have hb : b = x := Option.some.inj hx
                  obtain ⟨bad, hE⟩ := htl b r rfl
                  rw [hb] at bad
                  rcases bad.grows g with n | ⟨z, rfl, hz, hbad⟩
                  · exact .inr ⟨n, hE _ g⟩
                  · exact .inl ⟨z, rfl, hz, fun H3 g3 => ⟨fun z => (by rw [hbad] at z; cases z), fun _ => hE _ (g.trans g3)⟩⟩)
            (fun σ H' ⟨g, hle, v, hv⟩ => by
              subst hv
              have et : tl = [] := by
                cases tl with
                | nil => rfl
                | cons b r =>
                  rw [List.length_append, List.length_map, List.length_cons] at hle
                  omega
              obtain ⟨hn, hq⟩ := hend et
              rw [et, List.append_nil] at hs0
              refine ⟨_, rfl, a, ws, rfl, g.sq hs0, fun z hz => (hws z hz).2, fun H3 p g3 hp => ?_⟩
              refine ⟨p, sortW ws, rfl, .inl (.inl hp), by rw [sortW_len]; exact hn, fun z hz => (hws z (sortW_mem.mp hz)).2, fun H4 p' g4 hp' => ?_⟩
              exact hq H4 p' ((g.trans g3).trans g4) hp')
        rcases hs0 with hs | hs
        · exact .inl ⟨_, rfl, a, rfl, ⟨_, g2.l hs⟩, main _ _ walk_list fun H' g => g.l hs⟩
        · exact .inr ⟨_, rfl, a, rfl, ⟨_, g2.t hs⟩, main _ _ walk_tup fun H' g => g.t hs⟩
end
end SWL
set_option Elab.async false
set_option linter.all false
set_option maxRecDepth 100000
set_option maxHeartbeats 4000000
namespace SWL
open PySem PySem.Spec PyProof.Rows L2 LamX
/-! the draws -/
abbrev sBegun : Stmt := top18 21
abbrev sMixed : Stmt := top18 22
abbrev sDraw : Stmt := top18 23
abbrev sPick : Stmt := top18 24
def stD (g c : Addr) (r t : Int) : List (Key × V) := [(.inr "great", .ref g), (.inr "cells", .ref c), (.inr "rest", .int r), (.inr "turn", .int t)]
theorem st_great (g c : Addr) (r t : Int) : valV (stD g c r t) (.inr "great") = some (.ref g) := rfl
theorem st_cells (g c : Addr) (r t : Int) : valV (stD g c r t) (.inr "cells") = some (.ref c) := rfl
theorem st_rest (g c : Addr) (r t : Int) : valV (stD g c r t) (.inr "rest") = some (.int r) := rfl
theorem st_turn (g c : Addr) (r t : Int) : valV (stD g c r t) (.inr "turn") = some (.int t) := rfl
theorem st_putR (g c : Addr) (r t r' : Int) : putK (stD g c r t) (.inr "rest") (.int r') = stD g c r' t := rfl
theorem st_putT (g c : Addr) (r t t' : Int) : putK (stD g c r t) (.inr "turn") (.int t') = stD g c r t' := rfl
theorem st_new (g c : Addr) : mergeK [] (stD g c 0 0) = stD g c 0 0 := rfl
/-- the state of the draws: at most n blends so far -/
structure SAt (H : Hp) (a g c : Addr) (cs : List Int) (n : Nat) : Prop where
  ex : ∃ (gs : List Int) (r t : Int), H a = some (.dK (stD g c r t)) ∧ H g = some (.lst (gs.map V.int)) ∧ H c = some (.lst (cs.map V.int)) ∧ g ≠ c ∧ (∀ z ∈ gs, 0 ≤ z) ∧ 0 ≤ r ∧ 0 ≤ t ∧ t ≤ n
/-- all stays but the state and its great cells -/
def But (H H' : Hp) (a g : Addr) : Prop := ∀ b o, H b = some o → b ≠ a → b ≠ g → H' b = some o
theorem But.refl (H : Hp) (a g : Addr) : But H H a g := fun _ _ h _ _ => h
theorem But.trans {H H1 H2 : Hp} {a g : Addr} (x : But H H1 a g) (y : But H1 H2 a g) : But H H2 a g := fun b o h h1 h2 => y b o (x b o h h1 h2) h1 h2
theorem But.of {H H' : Hp} {a g : Addr} (x : Grows H H') : But H H' a g := fun b o h _ _ => x b o h
theorem SAt.grows {H H' : Hp} {a g c : Addr} {cs : List Int} {n : Nat} (s : SAt H a g c cs n) (x : Grows H H') : SAt H' a g c cs n := by
  obtain ⟨gs, r, t, h1, h2, h3, h4⟩ := s.ex
  exact ⟨gs, r, t, x _ _ h1, x _ _ h2, x _ _ h3, h4⟩
theorem SAt.mono {H : Hp} {a g c : Addr} {cs : List Int} {n m : Nat} (s : SAt H a g c cs n) (h : n ≤ m) : SAt H a g c cs m := by
  obtain ⟨gs, r, t, h1, h2, h3, h4, h5, h6, h7, h8⟩ := s.ex
  exact ⟨gs, r, t, h1, h2, h3, h4, h5, h6, h7, by omega⟩
def spBegun (K : PySem.W.Frag) : Sp := fun vs H Q _ => ∃ (a : Addr) (ns : List Int), vs = [.ref a] ∧ SqL K H a (ns.map V.int) ∧ ns.length ≤ sizeLine ∧ ∀ H' p g c cs, Grows H H' → SAt H' p g c cs 0 → H p = none → H g = none → Q (.ref p) H'
def spMixed : Sp := fun vs H Q _ => ∃ (a g c : Addr) (cs : List Int) (n : Nat), vs = [.ref a] ∧ SAt H a g c cs n ∧ n ≤ 1000000 ∧ ∀ H' i, 0 ≤ i → SAt H' a g c cs (n + 1) → (∀ b o, H b = some o → b ≠ a → H' b = some o) → Q (.int i) H'
def spDraw : Sp := fun vs H Q _ => ∃ (a g c : Addr) (cs : List Int) (n : Nat) (m : Int), vs = [.ref a, .int m] ∧ SAt H a g c cs n ∧ n ≤ 1000000 ∧ 1 ≤ m ∧ m ≤ 1000000 ∧ ∀ H' i, 0 ≤ i → i < m → SAt H' a g c cs (n + 1) → But H H' a g → Q (.int i) H'
section
variable {P : Program} {w : World} {K : PySem.W.Frag} {mg : Str → Option Value} {base : Heap}
theorem scMixed : FnScope ["state", "turn", "found", "prime", "blend", "cell"] ["state"] (defScope sMixed) := ⟨rfl, rfl, rfl, by decide +kernel, rfl, by decide +kernel, by decide +kernel⟩
theorem ok_mixed {f : Addr} {fd : FuncData} (F : L2.Fun K "_law_mixed" "_law_mixed" sMixed f fd) (B : Blt mg) : FnOk P w K mg base CX0 1 f fd ["state"] spMixed := by
  refine F.ok scMixed (fun vs H Q E h => ?_) (fun cdv A outer s H vs Q E hr h => ⟨_,
    pss_cons (ps_par (i := 1) (j := 2) rfl scMixed.nd rfl rfl (by decide) rfl rfl (pa_cons (pe_op op_add (pe_dget (hu_of hr) (pv 0) pe_str (fun _ _ => rfl)) pe_int) (pa_cons pe_int pa_nil)) (by rfl))
    (pss_cons (ps_dput (hu_of hr) (pv 0) pe_str (pv 1) rfl)
    (pss_cons (ps_for PassesOwn.never rfl (pi_list (pe_lst (pa_cons pe_int (pa_cons pe_int (pa_cons pe_int (pa_cons pe_int pa_nil)))))) (pg_name (i := 3) scMixed.nd rfl (Or.inl rfl))
      (pss_cons (ps_set (i := 4) scMixed.nd rfl (Or.inl rfl) (pe_op op_add (pe_op op_mul pe_int (pv 1)) (pe_op op_fdivN (pv 3) pe_int)))
      (pss_cons (ps_for PassesOwn.never rfl (pi_list (pe_dget (hu_of hr) (pv 0) pe_str (fun _ _ => rfl))) (pg_name (i := 5) scMixed.nd rfl (Or.inl rfl))
        (pss_one (ps_set (i := 4) scMixed.nd rfl (Or.inl rfl) (pe_op op_modN (pe_callTy call_int1 (by rfl) B.int (by decide +kernel) (pa_cons (pe_op op_add (pe_op op_add (pe_op op_mul (pv 4) pe_int) (pv 5)) (pv 1)) pa_nil)) (pv 3)))))
      (pss_one (ps_set (i := 2) scMixed.nd rfl (Or.inl rfl) (pe_op op_add (pe_op op_mul (pv 2) pe_int) (pe_op op_modN (pe_callTy call_int1 (by rfl) B.int (by decide +kernel) (pa_cons (pe_op op_pow (pv 4) pe_int) pa_nil)) (pv 3))))))))
    (pss_one (ps_ret (pv 2))))), ?_⟩)
  · obtain ⟨a, g, c, cs, n, rfl, _⟩ := h
    rfl
  · obtain ⟨a, g, c, cs, n, rfl, hs, hn, q⟩ := h
    obtain ⟨gs, r, t, h1, h2, h3, h4, h5, h6, h7, h8⟩ := hs.ex
    have ag : g ≠ a := ne_of h2 h1 (by intro z; cases z)
    have ac : c ≠ a := ne_of h3 h1 (by intro z; cases z)
    refine ⟨_, rfl, a, _, rfl, (st_turn g c r t) ▸ DGet.k (k := .inr "turn") h1, t, 1, rfl, rfl, _, _, rfl, ?_⟩
    refine ⟨_, rfl, _, rfl, a, _, rfl, DPut.k (k := .inr "turn") h1 (by show 4 < sizeLine; decide), ?_⟩
    rw [st_putT]
    generalize hH1 : upd H a (.dK (stD g c r (t + 1))) = H1
    have k1 : H1 a = some (.dK (stD g c r (t + 1))) := by rw [← hH1, upd_same]
    have o1 : ∀ b o, H b = some o → b ≠ a → H1 b = some o := fun b o e hb => by rw [← hH1, upd_ne hb]; exact e
    have s1 : SAt H1 a g c cs (n + 1) := ⟨gs, r, t + 1, k1, o1 _ _ h2 ag, o1 _ _ h3 ac, h4, h5, h6, by omega, by omega⟩
    refine ⟨by show 4 ≤ sizeLine; decide, fun L nL => ?_⟩
    have gL : Grows H1 (upd H1 L (.lst [.int 2147483549, .int 2147483543, .int 2147483497, .int 2147483489])) := Grows.new nL
    have kL : upd H1 L (.lst [.int 2147483549, .int 2147483543, .int 2147483497, .int 2147483489]) L = some (.lst ([2147483549, 2147483543, 2147483497, 2147483489].map V.int)) := by rw [upd_same]; rfl
    generalize upd H1 L (.lst [.int 2147483549, .int 2147483543, .int 2147483497, .int 2147483489]) = H2 at gL kL ⊢
    have s2 := s1.grows gL
    have c2 := gL _ _ (o1 _ _ h3 ac)
    have a2 := gL _ _ k1
    refine ⟨L, rfl, ⟨_, .inl (.inl kL)⟩, for_list (K := K) (a := L) (xs := [2147483549, 2147483543, 2147483497, 2147483489].map V.int) (fun i σ H' => H' = H2 ∧ ∃ (fo : Int) (v1 v2 v3 : Option V), 0 ≤ fo ∧ σ = [some (.ref a), some (.int (t + 1)), some (.int fo), v1, v2, v3])
      ⟨rfl, 0, none, none, none, Int.le_refl _, rfl⟩ (fun i σ H' _ ⟨e, _⟩ => by rw [e]; exact .inl (.inl kL)) ?_ ?_⟩
    · rintro i x σ H' hi ⟨rfl, fo, v1, v2, v3, hfo, rfl⟩
      obtain ⟨z, hz, rfl, hz1, hz2⟩ : ∃ z, [(2147483549 : Int), 2147483543, 2147483497, 2147483489][i]? = some z ∧ x = .int z ∧ 2147483489 ≤ z ∧ z ≤ 2147483549 := by
        rw [List.getElem?_map] at hi
        cases e : [(2147483549 : Int), 2147483543, 2147483497, 2147483489][i]? with
        | none => rw [e] at hi; cases hi
        | some z =>
          rw [e] at hi
          refine ⟨z, rfl, (Option.some.inj hi).symm, ?_⟩
          have hm := List.mem_of_getElem? e
          simp only [List.mem_cons, List.not_mem_nil, or_false] at hm
          omega
      have hdiv : (0 : Int) ≤ z.fdiv 41 ∧ z.fdiv 41 ≤ 2147483549 := by
        rw [Int.fdiv_eq_ediv_of_nonneg _ (by decide : (0 : Int) ≤ 41)]
        omega
      refine ⟨_, rfl, _, _, rfl, rfl, .inl ⟨by decide, by decide⟩, _, rfl, z, 41, rfl, rfl, ⟨by decide, by decide⟩, _, _, rfl, rfl, ?_⟩
      have hz0 : (0 : Int) < z := by omega
      have md : ∀ y : Int, 0 ≤ y.fmod z ∧ y.fmod z < z := fun y => by
        rw [Int.fmod_eq_emod_of_nonneg _ (Int.le_of_lt hz0)]
        exact ⟨Int.emod_nonneg _ (by omega), Int.emod_lt_of_pos _ hz0⟩
      refine ⟨_, rfl, a, _, rfl, (st_cells g c r (t + 1)) ▸ DGet.k (k := .inr "cells") a2, c, rfl, ⟨_, .inl (.inl c2)⟩, for_list (K := K) (a := c) (xs := cs.map V.int) (fun i σ H'' => H'' = H' ∧ ∃ (bl : Int) (v3 : Option V), 0 ≤ bl ∧ bl < 2 ^ 60 ∧ σ = [some (.ref a), some (.int (t + 1)), some (.int fo), some (.int z), some (.int bl), v3])
        ⟨rfl, 69621 * (t + 1) + z.fdiv 41, v3, by omega, by omega, rfl⟩ (fun i σ H'' _ ⟨e, _⟩ => by rw [e]; exact .inl (.inl c2)) ?_ ?_⟩
      · rintro i x σ H'' hi ⟨rfl, bl, v3, hb1, hb2, rfl⟩
        obtain ⟨y, rfl⟩ : ∃ y, x = .int y := by
          rw [List.getElem?_map] at hi
          cases e : cs[i]? with
          | none => rw [e] at hi; cases hi
          | some y => rw [e] at hi; exact ⟨y, (Option.some.inj hi).symm⟩
        obtain ⟨m1, m2⟩ := md (bl * 48271 + y + (t + 1))
        refine ⟨_, rfl, _, _, rfl, rfl, .inr ⟨by decide, by decide⟩, _, rfl, _, _, rfl, rfl, _, rfl, _, _, rfl, rfl, .inl ⟨_, rfl, _, rfl, _, _, rfl, rfl, by omega, ?_⟩⟩
        exact ⟨rfl, _, some (.int y), m1, by omega, rfl⟩
      · rintro σ H'' ⟨rfl, bl, v3, hb1, hb2, rfl⟩
        obtain ⟨m1, m2⟩ := md (bl ^ 5)
        refine ⟨_, rfl, _, _, rfl, rfl, .inr ⟨by decide, by decide⟩, _, rfl, _, _, rfl, rfl, ⟨by decide, by decide, by omega⟩, .inl ⟨_, rfl, _, rfl, _, _, rfl, rfl, by omega, _, _, rfl, rfl, ?_⟩⟩
        exact ⟨rfl, _, some (.int z), some (.int bl), v3, by
          have : (0 : Int) ≤ fo * 2147483659 := Int.mul_nonneg hfo (by decide)
          exact Int.add_nonneg this m1, rfl⟩
    · rintro σ H' ⟨rfl, fo, v1, v2, v3, hfo, rfl⟩
      exact ⟨_, rfl, q H' fo hfo s2 fun b o e hb => gL _ _ (o1 b o e hb)⟩
theorem scDraw : FnScope ["state", "room", "found"] ["state", "room"] (defScope sDraw) := ⟨rfl, rfl, rfl, by decide +kernel, rfl, by decide +kernel, by decide +kernel⟩
theorem dp_ints {H : Hp} : ∀ {l : List Int}, DpAll K H (l.map V.int) (l.map PyData.int)
  | [] => .nil
  | x :: l => .cons (.int x) dp_ints
theorem shaped_ints (l : List Int) : SeqAt.shaped (.list (l.map PyData.int)) = true := by
  have e : ∀ l : List Int, PyData.canLayAll0 (l.map PyData.int) = true := fun l => by
    induction l with
    | nil => rfl
    | cons x l ih => simp [PyData.canLayAll0, PyData.canLay0, ih]
  have d : PyData.depth (.list (l.map PyData.int)) ≤ 64 := by
    rw [PyData.depth, PySem.W.depth_ints]
    decide
  unfold SeqAt.shaped
  rw [Bool.and_eq_true]
  exact ⟨by rw [PyData.canLay0]; exact e l, decide_eq_true d⟩
theorem eqv_nil (l : List Int) : PyData.eqv (.list (l.map PyData.int)) (.list []) = decide (l = []) := by
  cases l <;> rfl
def rInt1 : List V → Hp → VK → Prop := fun xs H Q => (∃ i, xs = [.int i] ∧ Q (.int i) H) ∨ ∃ k, xs = [.bl k] ∧ Q (.int (if k then 1 else 0)) H
/-- found = int(state['rest']) % room; state['rest'] = state['rest'] // room; return found -/
def t_fin : TS := tSeq (tAsg (tOp (rI (fun _ j => j ≠ 0) fun i j => .int (i.fmod j)) (tCB rInt1 (tCons (tDGet (tVar 0) (tC (.str "rest"))) tNil)) (tVar 1)) (gName 2))
  (tSeq (sDPut (tVar 0) (tC (.str "rest")) (tOp (rI CDivN fun i j => .int (i.fdiv j)) (tDGet (tVar 0) (tC (.str "rest"))) (tVar 1))) (tRet (tVar 2)))
theorem draw_fin {H H1 : Hp} {a g c : Addr} {cs gs : List Int} {n : Nat} {m r t : Int} {Q : VK} (hm1 : 1 ≤ m) (hm2 : m ≤ 1000000) (h4 : g ≠ c) (ag : g ≠ a) (ac : c ≠ a) (q : ∀ H' i, 0 ≤ i → i < m → SAt H' a g c cs (n + 1) → But H H' a g → Q (.int i) H')
    (hb : But H H1 a g) (k1 : H1 a = some (.dK (stD g c r t))) (k2 : H1 g = some (.lst (gs.map V.int))) (k3 : H1 c = some (.lst (cs.map V.int))) (k5 : ∀ z ∈ gs, 0 ≤ z) (k6 : 0 ≤ r) (k7 : 0 ≤ t) (k8 : t ≤ ((n + 1 : Nat) : Int)) :
    t_fin { nx := fun _ H' => Q .non H', rt := Q } [some (.ref a), some (.int m), none] H1 := by
  have hm0 : (0 : Int) < m := by omega
  refine ⟨_, rfl, a, _, rfl, (st_rest g c r t) ▸ DGet.k (k := .inr "rest") k1, .inl ⟨_, rfl, _, rfl, _, _, rfl, rfl, by omega, ?_⟩⟩
  refine ⟨_, rfl, a, _, rfl, (st_rest g c r t) ▸ DGet.k (k := .inr "rest") k1, _, rfl, _, _, rfl, rfl, ⟨by omega, by omega⟩, ?_⟩
  refine ⟨_, rfl, a, _, rfl, DPut.k (k := .inr "rest") k1 (by show 4 < sizeLine; decide), ?_⟩
  rw [st_putR]
  have e1 : r.fmod m = r % m := Int.fmod_eq_emod_of_nonneg _ (Int.le_of_lt hm0)
  have e2 : r.fdiv m = r / m := Int.fdiv_eq_ediv_of_nonneg _ (Int.le_of_lt hm0)
  refine ⟨_, rfl, q _ _ (by rw [e1]; exact Int.emod_nonneg _ (by omega)) (by rw [e1]; exact Int.emod_lt_of_pos _ hm0) ⟨gs, r.fdiv m, t, upd_same, by rw [upd_ne ag]; exact k2, by rw [upd_ne ac]; exact k3, h4, k5, by rw [e2]; exact Int.ediv_nonneg k6 (Int.le_of_lt hm0), k7, k8⟩ fun b o e n1 n2 => ?_⟩
  rw [upd_ne n1]
  exact hb b o e n1 n2
theorem ok_draw {f f1 : Addr} {fd fd1 : FuncData} (F : L2.Fun K "_law_draw" "_law_draw" sDraw f fd) (B : Blt mg) (G : FnOk P w K mg base CX0 1 f1 fd1 ["state"] spMixed) (D : Def mg K "_law_mixed" f1 fd1 ["state"]) : FnOk P w K mg base CX0 2 f fd ["state", "room"] spDraw := by
  refine F.ok scDraw (fun vs H Q E h => ?_) (fun cdv A outer s H vs Q E hr h => ⟨_,
    pss_cons (ps_if (pt_cmpR op_eq (pe_dget (hu_of hr) (pv 0) pe_str (fun _ _ => rfl)) pe_int (nomark _))
      (pss_one (ps_dput (hu_of hr) (pv 0) pe_str (pe_ifExp (pt_cmpR (op_neD (by have := hr.un; show (A.deeper _).units + 64 < _; omega)) (pe_dget (hu_of hr) (pv 0) pe_str (fun _ _ => rfl)) (pe_lst pa_nil) (nomark _))
        (pe_bm PySem.F.plainAttrs_list PySem.F.slot_list_pop PySem.F.type_list_pop mt_popAt (pe_dget (hu_of hr) (pv 0) pe_str (fun _ _ => rfl)) (pa_cons pe_int pa_nil))
        (pe_call G hr (by rfl) D.g D.k D.b .nil pass0 (pa_cons (pv 0) pa_nil))) rfl)) pss_nil)
    (pss_cons (ps_set (i := 2) scDraw.nd rfl (Or.inl rfl) (pe_op op_modN (pe_callTy call_int1 (by rfl) B.int (by decide +kernel) (pa_cons (pe_dget (hu_of hr) (pv 0) pe_str (fun _ _ => rfl)) pa_nil)) (pv 1)))
    (pss_cons (ps_dput (hu_of hr) (pv 0) pe_str (pe_op op_fdivN (pe_dget (hu_of hr) (pv 0) pe_str (fun _ _ => rfl)) (pv 1)) rfl)
    (pss_one (ps_ret (pv 2))))), ?_⟩)
  · obtain ⟨a, g, c, cs, n, m, rfl, _⟩ := h
    rfl
  · obtain ⟨a, g, c, cs, n, m, rfl, hs, hn, hm1, hm2, q⟩ := h
    obtain ⟨gs, r, t, h1, h2, h3, h4, h5, h6, h7, h8⟩ := hs.ex
    have ag : g ≠ a := ne_of h2 h1 (by intro z; cases z)
    have ac : c ≠ a := ne_of h3 h1 (by intro z; cases z)
    have hm0 : (0 : Int) < m := by omega
    have fin := fun (H1 : Hp) gs r t => draw_fin (H1 := H1) (n := n) (gs := gs) (r := r) (t := t) hm1 hm2 h4 ag ac q
    refine ⟨_, rfl, a, _, rfl, (st_rest g c r t) ▸ DGet.k (k := .inr "rest") h1, rfl, _, rfl, ?_⟩
    by_cases hr0 : r = 0
    · refine if_pos_of (decide_eq_true (congrArg V.int hr0)) ?_
      refine ⟨_, rfl, a, _, rfl, (st_great g c r t) ▸ DGet.k (k := .inr "great") h1, by show 0 ≤ sizeLine; decide, fun p np => ?_⟩
      have gp : Grows H (upd H p (.lst [])) := Grows.new np
      have kp : upd H p (.lst []) p = some (.lst []) := upd_same
      generalize upd H p (.lst []) = H2 at gp kp ⊢
      refine ⟨.list (gs.map PyData.int), .list [], .lst (.inl (.inl (gp _ _ h2))) dp_ints, .lst (.inl (.inl kp)) .nil, shaped_ints gs, rfl, _, rfl, ?_⟩
      rw [eqv_nil]
      cases gs with
      | nil =>
        refine if_neg_of (by decide) ?_
        refine ⟨_, rfl, a, g, c, cs, n, rfl, hs.grows gp, hn, fun H3 i hi s3 hk3 => ?_⟩
        obtain ⟨gs', r', t', k1, k2, k3, k4, k5, k6, k7, k8⟩ := s3.ex
        refine ⟨_, rfl, a, _, rfl, DPut.k (k := .inr "rest") k1 (by show 4 < sizeLine; decide), ?_⟩
        rw [st_putR]
        refine fin (upd H3 a (.dK (stD g c i t'))) gs' i t' (fun b o e n1 n2 => ?_) upd_same (by rw [upd_ne ag]; exact k2) (by rw [upd_ne ac]; exact k3) k5 hi k7 k8
        rw [upd_ne n1]
        exact hk3 b o (gp b o e) n1
      | cons y gs =>
        refine if_pos_of (by rw [decide_eq_false (by simp)]; decide) ?_
        refine ⟨_, rfl, a, .ref g, rfl, (st_great g c r t) ▸ DGet.k (k := .inr "great") (gp _ _ h1), Or.inl ⟨rfl, _, .inl (.inl (gp _ _ h2))⟩, g, _, 0, 0, .int y, rfl, rfl, gp _ _ h2, by decide, by decide, by simp [seqIndex?], rfl, ?_⟩
        refine ⟨_, rfl, a, _, rfl, DPut.k (k := .inr "rest") (show upd H2 g _ a = _ from (upd_ne ag.symm).trans (gp _ _ h1)) (by show 4 < sizeLine; decide), ?_⟩
        rw [st_putR]
        refine fin (upd (upd H2 g (.lst ((gs.map V.int)))) a (.dK (stD g c y t))) gs y t (fun b o e n1 n2 => ?_) upd_same (by rw [upd_ne ag, upd_same]) (by rw [upd_ne ac, upd_ne h4.symm]; exact gp _ _ h3) (fun z hz => h5 z (List.mem_cons_of_mem _ hz)) (h5 y List.mem_cons_self) h7 (by omega)
        rw [upd_ne n1, upd_ne n2]
        exact gp b o e
    · refine if_neg_of (by rw [decide_eq_false (fun z => hr0 (V.int.inj z))]; decide) ?_
      exact fin H gs r t (But.refl H a g) h1 h2 h3 h5 h6 h7 (by omega)
end
end SWL
set_option Elab.async false
set_option linter.all false
set_option maxRecDepth 100000
set_option maxHeartbeats 4000000
namespace SWL
open PySem PySem.Spec PyProof.Rows L2 LamX
def spPick : Sp := fun vs H Q _ => ∃ (a g c l : Addr) (cs : List Int) (n : Nat) (xs : List V), vs = [.ref a, .ref l] ∧ SAt H a g c cs n ∧ n ≤ 1000000 ∧ H l = some (.lst xs) ∧ l ≠ g ∧ xs ≠ [] ∧ xs.length ≤ 1000000 ∧ ∀ H' x, x ∈ xs → SAt H' a g c cs (n + 1) → But H H' a g → Q x H'
def absI : V → Int
  | .int i => if i < 0 then -i else i
  | _ => 0
theorem absI_nn (v : V) : 0 ≤ absI v := by
  cases v <;> (unfold absI; try exact Int.le_refl _)
  split <;> omega
section
variable {P : Program} {w : World} {K : PySem.W.Frag} {mg : Str → Option Value} {base : Heap}
theorem scPick : FnScope ["state", "some"] ["state", "some"] (defScope sPick) := ⟨rfl, rfl, rfl, by decide +kernel, rfl, by decide +kernel, by decide +kernel⟩
theorem ok_pick {f f1 : Addr} {fd fd1 : FuncData} (F : L2.Fun K "_law_pick" "_law_pick" sPick f fd) (B : Blt mg) (G : FnOk P w K mg base CX0 2 f1 fd1 ["state", "room"] spDraw) (D : Def mg K "_law_draw" f1 fd1 ["state", "room"]) : FnOk P w K mg base CX0 3 f fd ["state", "some"] spPick := by
  refine F.ok scPick (fun vs H Q E h => ?_) (fun cdv A outer s H vs Q E hr h => ⟨_,
    pss_one (ps_ret (pe_ix ix_list (pv 1) (pe_call G hr (by rfl) D.g D.k D.b .nil pass0 (pa_cons (pv 0) (pa_cons (pe_callB call_len_seq (by rfl) B.len PySem.boot_len (pa_cons (pv 1) pa_nil)) pa_nil))) (fun _ _ => rfl))), ?_⟩)
  · obtain ⟨a, g, c, l, cs, n, xs, rfl, _⟩ := h
    rfl
  · obtain ⟨a, g, c, l, cs, n, xs, rfl, hs, hn, hl, lg, hne, hlen, q⟩ := h
    have la : l ≠ a := by
      obtain ⟨gs, r, t, h1, _⟩ := hs.ex
      exact ne_of hl h1 (by intro z; cases z)
    have hpos : 0 < xs.length := List.length_pos_iff.mpr hne
    refine ⟨_, rfl, _, rfl, _, rfl, l, xs, rfl, .inl (.inl (.inl hl)), a, g, c, cs, n, _, rfl, hs, hn, by omega, by omega, fun H' i hi hlt s' hb => ?_⟩
    obtain ⟨k, rfl⟩ : ∃ k : Nat, i = k := ⟨i.toNat, by omega⟩
    have hk : k < xs.length := by omega
    exact ⟨l, xs, k, xs[k], rfl, rfl, .inl (.inl (hb l _ hl la lg)), atI_nat (List.getElem?_eq_getElem hk), q H' _ (List.getElem_mem hk) s' hb⟩
theorem scBegun : FnScope ["script", "great", "cell"] ["script"] (defScope sBegun) := ⟨rfl, rfl, rfl, by decide +kernel, rfl, by decide +kernel, by decide +kernel⟩
theorem ok_begun {f : Addr} {fd : FuncData} (F : L2.Fun K "_law_begun" "_law_begun" sBegun f fd) (B : Blt mg) : FnOk P w K mg base CX0 1 f fd ["script"] (spBegun K) := by
  refine F.ok scBegun (fun vs H Q E h => ?_) (fun cdv A outer s H vs Q E hr h => ⟨_,
    pss_cons (ps_setLc (i := 1) (own := [("cell", 2)]) (g := gName 2) rfl scBegun.nd rfl rfl (sw_true rfl rfl rfl (by decide +kernel)) (pi_list (pv 0)) (blkOk_by (N := ["script", "great", "cell"]) (sc := defScope sBegun) (by decide +kernel)) (fun _ _ _ _ _ => pg_name (i := 2) scBegun.nd rfl (Or.inl rfl))
        (fun _ _ _ _ _ => pts_one (pt_cmpR op_ge (pe_callB call_abs (by rfl) B.abs (by decide +kernel) (pa_cons (pv 2) pa_nil)) (pe_op op_pow pe_int pe_int) (nomark _)))
        (fun _ _ _ _ _ => pe_op op_sub (pe_callB call_abs (by rfl) B.abs (by decide +kernel) (pa_cons (pv 2) pa_nil)) (pe_op op_pow pe_int pe_int)))
    (pss_one (ps_ret (pe_disp (pps_cons pe_str (pv 1) (pps_cons pe_str
        (pe_lc (own := [("cell", 2)]) (g := gName 2) (tt := tYes) rfl scBegun.nd (pi_list (pv 0)) (blkOk_by (N := ["script", "great", "cell"]) (sc := defScope sBegun) (by decide +kernel)) (fun _ _ _ _ _ => pg_name (i := 2) scBegun.nd rfl (Or.inl rfl)) (fun _ _ _ _ _ => pts_nil)
          (fun _ _ _ _ _ => pe_callB call_abs (by rfl) B.abs (by decide +kernel) (pa_cons (pv 2) pa_nil)))
        (pps_cons pe_str pe_int (pps_cons pe_str pe_int pps_nil)))) (by rfl) (by rfl) (by simp) (by decide)))), ?_⟩)
  · obtain ⟨a, ns, rfl, _⟩ := h
    rfl
  · obtain ⟨a, ns, rfl, hs, hn, q⟩ := h
    have hlen : (ns.map V.int).length ≤ sizeLine := by rw [List.length_map]; exact hn
    refine ⟨_, rfl, a, rfl, ⟨_, hs⟩, fun g0 ng => comp (xs := ns.map V.int) walk_list (fun v => decide ((10 : Int) ^ (18 : Int).toNat ≤ absI v)) (fun v => .int (absI v - (10 : Int) ^ (18 : Int).toNat)) ng (fun H g => g.l hs) hlen
      (fun x H k hx g hk => ?_) (fun x H Q hx hp g hq => ?_) (fun H1 g1 hg1 => ?_)⟩
    · obtain ⟨z, _, rfl⟩ := List.mem_map.mp hx
      exact ⟨_, rfl, z, rfl, _, _, rfl, rfl, ⟨by decide, by decide, by decide⟩, _, _, rfl, rfl, _, rfl, hk H (Grows.refl H)⟩
    · obtain ⟨z, _, rfl⟩ := List.mem_map.mp hx
      exact ⟨_, rfl, z, rfl, _, _, rfl, rfl, ⟨by decide, by decide, by decide⟩, _, _, rfl, rfl, hq H (Grows.refl H)⟩
    · intro p np
      have np0 : H p = none := by
        cases e : H p with
        | none => rfl
        | some o => rw [g1 _ _ e] at np; cases np
      have gp : Grows H1 (upd H1 p (.dK [])) := Grows.new np
      have kp : upd H1 p (.dK []) p = some (.dK []) := upd_same
      generalize upd H1 p (.dK []) = H2 at gp kp ⊢
      have g2 := g1.trans gp
      refine ⟨_, rfl, ?_⟩
      refine ⟨_, rfl, a, rfl, ⟨_, g2.l hs⟩, fun c0 nc => comp (xs := ns.map V.int) walk_list (fun _ => true) (fun v => .int (absI v)) nc (fun H g => (g2.trans g).l hs) hlen (fun x H k hx g hk => hk H (Grows.refl H)) (fun x H Q hx hp g hq => ?_) (fun H3 g3 hg3 => ?_)⟩
      · obtain ⟨z, _, rfl⟩ := List.mem_map.mp hx
        exact ⟨_, rfl, z, rfl, hq H (Grows.refl H)⟩
      · rw [filter_yes] at hg3
        refine ⟨g3 _ _ kp, stD g0 c0 0 0, rfl, by show 4 ≤ 15; decide, ?_⟩
        rw [st_new]
        have gP : g0 ≠ p := ne_of (gp _ _ hg1) kp (by intro z; cases z)
        have cP : c0 ≠ p := ne_of hg3 (g3 _ _ kp) (by intro z; cases z)
        have gc : g0 ≠ c0 := ne_of_none (gp _ _ hg1) nc
        refine q _ p g0 c0 ((ns.map V.int).map absI) (fun b o e => ?_) ⟨((ns.map V.int).filter fun v => decide ((10 : Int) ^ (18 : Int).toNat ≤ absI v)).map (fun v => absI v - (10 : Int) ^ (18 : Int).toNat), 0, 0, upd_same, ?_, ?_, gc, ?_, by decide, by decide, by decide⟩ np0 ng
        · rw [upd_ne (ne_of_none e np0)]
          exact g3 _ _ (g2 _ _ e)
        · rw [upd_ne gP, g3 _ _ (gp _ _ hg1), List.map_map]
          rfl
        · rw [upd_ne cP, hg3]
          simp only [List.map_map]
          rfl
        · intro z hz
          obtain ⟨v, hv, rfl⟩ := List.mem_map.mp hz
          have := of_decide_eq_true (List.mem_filter.mp hv).2
          omega
end
end SWL
set_option Elab.async false
set_option linter.all false
set_option maxRecDepth 100000
set_option maxHeartbeats 4000000
namespace SWL
open PySem PySem.Spec PyProof.Rows L2 LamX
abbrev sPlain : Stmt := top18 25
abbrev sIs : Stmt := top18 26
theorem pe_no {X : Cx} {e : Expr} : PE X e (fun _ _ _ => False) := ⟨fun _ _ _ _ _ _ h => h.elim⟩
theorem pss_no {X : Cx} {b : List Stmt} : PSs X b (fun _ _ _ => False) := ⟨fun _ _ _ _ _ _ h => h.elim⟩
def spPlain (K : PySem.W.Frag) (k : Nat) : Sp := fun vs H Q _ => ∃ x d, vs = [x] ∧ Dp K H x d ∧ d.depth < k ∧ ∀ H', Grows H H' → Q (.bl true) H'
section
variable {P : Program} {w : World} {K : PySem.W.Frag} {mg : Str → Option Value} {base : Heap}
theorem scPlain : FnScope ["value", "one"] ["value"] (defScope sPlain) := ⟨rfl, rfl, rfl, by decide +kernel, rfl, by decide +kernel, by decide +kernel⟩
theorem dpall_mem {H : Hp} : ∀ {xs : List V} {ds : List PyData}, DpAll K H xs ds → ∀ x ∈ xs, ∃ d, Dp K H x d ∧ d.depth ≤ PyData.depthAll ds
  | _, _, .nil, x, hx => by cases hx
  | _, _, .cons (d := d) (ds := ds) h t, x, hx => by
    rcases List.mem_cons.mp hx with rfl | hx
    · exact ⟨d, h, by rw [PyData.depthAll]; omega⟩
    · obtain ⟨d', h1, h2⟩ := dpall_mem t x hx
      exact ⟨d', h1, by rw [PyData.depthAll]; omega⟩
theorem ok_plain {f : Addr} {fd : FuncData} (F : L2.Fun K "_law_plain" "_law_plain" sPlain f fd) (B : Blt mg) (D : Def mg K "_law_plain" f fd ["value"]) : ∀ k : Nat, FnOk P w K mg base CX0 (k + 1) f fd ["value"] (spPlain K k)
  | 0 => F.ok scPlain (fun vs H Q E h => by obtain ⟨x, d, rfl, _⟩ := h; rfl) (fun cdv A outer s H vs Q E hr h => by
      obtain ⟨x, d, _, _, z, _⟩ := h
      exact absurd z (Nat.not_lt_zero _))
  | k + 1 => by
    have G := ok_plain F B D k
    refine F.ok scPlain (fun vs H Q E h => by obtain ⟨x, d, rfl, _⟩ := h; rfl) (fun cdv A outer s H vs Q E hr h => ⟨_,
      pss_cons (ps_if (pt_truth (pe_callB call_isiT (by rfl) B.isi (by decide +kernel) (pa_cons (pv 0) (pa_cons (pe_tup (pa_cons (pe_bltn (u := .type "list") (v := .ty "list") (by rfl) B.list (by decide +kernel) rfl) (pa_cons (pe_bltn (u := .type "tuple") (v := .ty "tuple") (by rfl) B.tuple (by decide +kernel) rfl) pa_nil))) pa_nil))) (by intro _; rfl))
        (pss_one (ps_ret (pe_cmpR (op_eqD (by have := hr.un; show (A.deeper _).units + 64 < _; omega)) (pe_lc (own := [("one", 1)]) (g := gName 1) (tt := tNot fun σ H Q => tCall (spPlain K k) [] E0 (tCons (tVar 1) tNil) σ H fun x H' => ∃ k, TruV K x H' k ∧ Q k H') rfl scPlain.nd (pi_or (pi_list (pv 0)) (pi_tup (pv 0))) (blkOk_by (N := ["value", "one"]) (sc := defScope sPlain) (by decide +kernel)) (fun _ _ _ _ _ => pg_name (i := 1) scPlain.nd rfl (Or.inl rfl))
          (fun _ _ _ _ _ => pts_one (pt_not (pt_truth (pe_call G hr (by rfl) D.g D.k D.b .nil pass0 (pa_cons (pv 1) pa_nil)) (by intro _; rfl)))) (fun _ _ _ _ _ => pe_int)) (pe_lst pa_nil) (nomark _)))) pss_nil)
      (pss_cons (ps_if (pt_truth (pe_callB call_isi (by rfl) B.isi (by decide +kernel) (pa_cons (pv 0) (pa_cons (pe_bltn (u := .type "dict") (v := .ty "dict") (by rfl) B.dict (by decide +kernel) rfl) pa_nil))) (by intro _; rfl)) pss_no pss_nil)
      (pss_one (ps_ret (pe_or (pe_cmpR op_isN1 (pv 0) pe_non (nomark _)) (pe_one (pe_callB call_isiT (by rfl) B.isi (by decide +kernel) (pa_cons (pv 0) (pa_cons (pe_tup (pa_cons (pe_bltn (u := .type "int") (v := .ty "int") (by rfl) B.int (by decide +kernel) rfl) (pa_cons (pe_bltn (u := .type "str") (v := .ty "str") (by rfl) B.str (by decide +kernel) rfl) pa_nil))) pa_nil)))))))), ?_⟩)
    obtain ⟨x, d, rfl, hd, hk, q⟩ := h
    refine ⟨_, rfl, by show 2 ≤ sizeLine; decide, fun tp ntp => ?_⟩
    have gt : Grows H (upd H tp (.tup [.ty "list", .ty "tuple"])) := Grows.new ntp
    have kt : upd H tp (.tup [.ty "list", .ty "tuple"]) tp = some (.tup [.ty "list", .ty "tuple"]) := upd_same
    generalize upd H tp (.tup [.ty "list", .ty "tuple"]) = H1 at gt kt ⊢
    have kinds : (∃ (a : Addr) (xs : List V) (ds : List PyData), x = .ref a ∧ Sq K H a xs ∧ DpAll K H xs ds ∧ d.depth = 1 + PyData.depthAll ds) ∨ ∃ t : String, TyX K H x (.type t) ∧ kitB t "list" = some false ∧ kitB t "tuple" = some false ∧ kitB t "dict" = some false ∧ (x = .non ∨ (x ≠ .non ∧ PySem.W.kitAny K (.type t) [.type "int", .type "str"] = some true)) := by
      cases hd with
      | non => exact .inr ⟨"NoneType", .base .non, by decide +kernel, by decide +kernel, by decide +kernel, .inl rfl⟩
      | bl b => exact .inr ⟨"bool", .base (.bl b), by decide +kernel, by decide +kernel, by decide +kernel, .inr ⟨(by intro z; cases z), kitAny_cons (b := true) (kit_ty (by decide +kernel)) (fun z => by cases z) fun _ => rfl⟩⟩
      | int b => exact .inr ⟨"int", .base (.int b), by decide +kernel, by decide +kernel, by decide +kernel, .inr ⟨(by intro z; cases z), kitAny_cons (b := true) (kit_ty (by decide +kernel)) (fun z => by cases z) fun _ => rfl⟩⟩
      | str b => exact .inr ⟨"str", .base (.str b), by decide +kernel, by decide +kernel, by decide +kernel, .inr ⟨(by intro z; cases z), kitAny_cons (b := false) (kit_ty (by decide +kernel)) (fun _ => kitAny_cons (b := true) (kit_ty (by decide +kernel)) (fun z => by cases z) fun _ => rfl) fun z => by cases z⟩⟩
      | lst h1 h2 => exact .inl ⟨_, _, _, rfl, .inl h1, h2, by rw [PyData.depth]; omega⟩
      | tup h1 h2 => exact .inl ⟨_, _, _, rfl, .inr h1, h2, by rw [PyData.depth]; omega⟩
    rcases kinds with ⟨a, xs, ds, rfl, hs, hds, hdep⟩ | ⟨t, ty, k1, k2, k3, k4⟩
    · obtain ⟨t, ty, ka⟩ := ty_sq (gt.sq hs)
      refine ⟨.ref a, tp, _, .type t, [.type "list", .type "tuple"], true, rfl, kt, .cons (.ty _) (.cons (.ty _) .nil), ty, ka, true, rfl, if_pos_of rfl ?_⟩
      have main : ∀ (J : It) (G : Hp → Prop), Walk J xs.length G (YAt xs) → (∀ H', Grows H1 H' → G H') → _ := fun J G wk hG D0 (nD : H1 D0 = none) =>
        compF (σ := [some (.ref a), none]) (i := 1) (te := tC (.int 1)) (tt := tNot fun σ H Q => tCall (spPlain K k) [] E0 (tCons (tVar 1) tNil) σ H fun x H' => ∃ k, TruV K x H' k ∧ Q k H')
          (Qd := fun H2 => tLst tNil [some (.ref a), none] H2 fun y H3 => rEqD K (.ref D0) y H3 fun v H4 => Q v H4) wk (fun _ => false) (fun _ => .int 1) nD hG (by rw [show xs.filter (fun _ => false) = [] from by simp]; exact Nat.zero_le _)
          (fun y H2 kk hy g2 hkk => by
            obtain ⟨d', h1, h2⟩ := dpall_mem hds y hy
            refine ⟨_, rfl, y, d', rfl, (gt.trans g2).dp _ _ h1, by omega, fun H3 g3 => ⟨true, rfl, hkk H3 g3⟩⟩)
          (fun y H2 Q hy hp => by cases hp)
          (fun H2 g2 hD => by
            have e : (xs.filter fun _ => false).map (fun _ => V.int 1) = [] := by simp
            rw [e] at hD
            refine ⟨by show 0 ≤ sizeLine; decide, fun p np => ?_⟩
            exact ⟨.list [], .list [], .lst (.inl (.inl ((Grows.new np) _ _ hD))) .nil, .lst (.inl (.inl upd_same)) .nil, rfl, rfl, q _ ((gt.trans g2).trans (Grows.new np))⟩)
      rcases hs with hs | hs
      · exact .inl ⟨_, rfl, a, rfl, ⟨_, gt.l hs⟩, main _ _ walk_list fun H' g => (gt.trans g).l hs⟩
      · exact .inr ⟨_, rfl, a, rfl, ⟨_, gt.t hs⟩, main _ _ walk_tup fun H' g => (gt.trans g).t hs⟩
    · refine ⟨x, tp, _, .type t, [.type "list", .type "tuple"], false, rfl, kt, .cons (.ty _) (.cons (.ty _) .nil), tyx_grows gt ty, NotSeq.kit k1 k2, false, rfl, if_neg_of (by decide) ?_⟩
      refine ⟨_, rfl, x, .ty "dict", .type t, .type "dict", false, rfl, .ty "dict", tyx_grows gt ty, kit_ty k3, false, rfl, if_neg_of (by decide) ?_⟩
      rcases k4 with e | ⟨e, k4⟩
      · exact ⟨_, rfl, rfl, _, rfl, if_pos_of (decide_eq_true e) (q H1 gt)⟩
      · refine ⟨_, rfl, rfl, _, rfl, if_neg_of (by rw [decide_eq_false e]; decide) ?_⟩
        refine ⟨_, rfl, by show 2 ≤ sizeLine; decide, fun tp2 ntp2 => ?_⟩
        exact ⟨x, tp2, _, .type t, [.type "int", .type "str"], true, rfl, upd_same, .cons (.ty _) (.cons (.ty _) .nil), tyx_grows (gt.trans (Grows.new ntp2)) ty, k4, q _ (gt.trans (Grows.new ntp2))⟩
end
end SWL
set_option Elab.async false
set_option linter.all false
set_option maxRecDepth 100000
set_option maxHeartbeats 4000000
namespace SWL
open PySem PySem.Spec PyProof.Rows L2 LamX
structure GoodD (d : PyData) : Prop where
  lay : d.layable0 = true
  dep : d.depth ≤ 50
  short : d.intsShort 13 = true
  sh : d.showable = true
  nd : d.hasDict = false
theorem GoodD.can {d : PyData} (g : GoodD d) : d.canLay0 = true := by
  have h : (PyData.canLay0 d && decide (PyData.depth d ≤ 64) && decide (PyData.weight d ≤ 2 ^ 20)) = true := g.lay
  simp only [Bool.and_eq_true] at h
  exact h.1.1
theorem GoodD.shaped {d : PyData} (g : GoodD d) : SeqAt.shaped d = true := SeqAt.shaped_of_layable g.lay
def spIs (K : PySem.W.Frag) (k : Nat) : Sp := fun vs H Q _ => ∃ (a b : Addr) (d : PyData), vs = [.ref a, .ref b] ∧ Dp K H (.ref a) d ∧ Dp K H (.ref b) d ∧ GoodD d ∧ d.depth < k ∧ ∀ H', Grows H H' → Q (.bl true) H'
section
variable {P : Program} {w : World} {K : PySem.W.Frag} {mg : Str → Option Value} {base : Heap}
theorem scIs : FnScope ["found", "due"] ["found", "due"] (defScope sIs) := ⟨rfl, rfl, rfl, by decide +kernel, rfl, by decide +kernel, by decide +kernel⟩
theorem ok_is {f f1 : Addr} {fd fd1 : FuncData} {k : Nat} (F : L2.Fun K "_law_is" "_law_is" sIs f fd) (B : Blt mg) (G : FnOk P w K mg base CX0 (k + 1) f1 fd1 ["value"] (spPlain K k)) (D : Def mg K "_law_plain" f1 fd1 ["value"]) : FnG P w K mg base (k + 2) f fd ["found", "due"] (spIs K k) := by
  refine fng_ok F scIs (fun vs H Q E h => ?_) (fun cdv A outer s H vs Q E gA _ hr h => ⟨_,
    pss_one (ps_ret (pe_and (pe_call G hr (by rfl) D.g D.k D.b .nil pass0 (pa_cons (pv 0) pa_nil))
      (pe_and (pe_cmpR (op_eqD (by have := hr.un; show (A.deeper _).units + 64 < _; omega)) (pv 0) (pv 1) (nomark _))
      (pe_and (pe_cmpR (op_eqD (by have := hr.un; show (A.deeper _).units + 64 < _; omega)) (pv 1) (pv 0) (nomark _))
      (pe_one (pe_cmpR op_eq (pe_callB (cr_repr gA (by have := hr.un; show (A.deeper _).units + 64 < _; omega)) (by rfl) B.repr (by decide +kernel) (pa_cons (pv 0) pa_nil)) (pe_callB (cr_repr gA (by have := hr.un; show (A.deeper _).units + 64 < _; omega)) (by rfl) B.repr (by decide +kernel) (pa_cons (pv 1) pa_nil)) (nomark _))))))), ?_⟩)
  · obtain ⟨a, b, d, rfl, _⟩ := h
    rfl
  · obtain ⟨a, b, d, rfl, h1, h2, g, hk, q⟩ := h
    have fit : d.shown.length ≤ sizeLine := by
      have := PyData.shown_le_of_layable0 g.lay g.short
      exact Nat.le_trans this (by decide)
    refine ⟨_, rfl, _, d, rfl, h1, hk, fun H1 g1 => ⟨true, rfl, if_pos_of rfl ?_⟩⟩
    have k1 := g1.dp _ _ h1
    have k2 := g1.dp _ _ h2
    refine ⟨_, rfl, _, rfl, d, d, k1, k2, g.shaped, g.shaped, PyData.eqv d d, rfl, ?_⟩
    rw [PySem.SeqAt.eqv_refl d g.can]
    refine if_pos_of rfl ⟨_, rfl, _, rfl, d, d, k2, k1, g.shaped, g.shaped, PyData.eqv d d, rfl, ?_⟩
    rw [PySem.SeqAt.eqv_refl d g.can]
    refine if_pos_of rfl ⟨_, rfl, a, d, rfl, k1, g.sh, g.nd, g.dep, fit, _, rfl, b, d, rfl, k2, g.sh, g.nd, g.dep, fit, rfl, ?_⟩
    rw [decide_eq_true rfl]
    exact q H1 g1
end
end SWL
set_option Elab.async false
set_option linter.all false
set_option maxRecDepth 100000
set_option maxHeartbeats 4000000
namespace SWL
open PySem PySem.Spec PyProof.Rows L2 LamX
abbrev sMoL : Stmt := top18 28
abbrev sMoS : Stmt := top18 29
abbrev sMoLeast : Stmt := top18 30
abbrev sOdd : Stmt := top18 31
def lotsL : List Str := ["ab", "ab", "ab", "xy", "abc", "a", "bdz"]
def spMoL : Sp := fun vs H Q _ => ∃ (a g c : Addr) (cs : List Int) (n : Nat), vs = [.ref a] ∧ SAt H a g c cs n ∧ n ≤ 1000000 ∧ ∀ H' z, z ∈ lotsL → SAt H' a g c cs (n + 1) → But H H' a g → Q (.str z) H'
/-- an odd value -/
def Odd (H : Hp) (ls : Str) (x : V) : Prop := x = .non ∨ x = .int 5 ∨ (∃ t, x = .ref t ∧ H t = some (.tup [.str "a"])) ∨ (∃ t, x = .ref t ∧ H t = some (.lst [.str "a"])) ∨ x = .str "A" ∨ x = .str "a b" ∨ x = .str (ls ++ "q") ∨ x = .bl true
def spOdd : Sp := fun vs H Q _ => ∃ (a g c : Addr) (cs : List Int) (n : Nat) (ls : Str), vs = [.ref a, .str ls] ∧ ls.length ≤ 1000 ∧ SAt H a g c cs n ∧ n ≤ 1000000 ∧ ∀ H' x, Odd H' ls x → SAt H' a g c cs (n + 1) → But H H' a g → Q x H'
section
variable {P : Program} {w : World} {K : PySem.W.Frag} {mg : Str → Option Value} {base : Heap}
theorem scMoL : FnScope ["state"] ["state"] (defScope sMoL) := ⟨rfl, rfl, rfl, by decide +kernel, rfl, by decide +kernel, by decide +kernel⟩
theorem ok_moL {f f1 : Addr} {fd fd1 : FuncData} (F : L2.Fun K "_law_mo_letters" "_law_mo_letters" sMoL f fd) (G : FnOk P w K mg base CX0 3 f1 fd1 ["state", "some"] spPick) (D : Def mg K "_law_pick" f1 fd1 ["state", "some"]) : FnOk P w K mg base CX0 4 f fd ["state"] spMoL := by
  refine F.ok scMoL (fun vs H Q E h => ?_) (fun cdv A outer s H vs Q E hr h => ⟨_,
    pss_one (ps_ret (pe_call G hr (by rfl) D.g D.k D.b .nil pass0 (pa_cons (pv 0) (pa_cons (pe_lst (pa_cons pe_str (pa_cons pe_str (pa_cons pe_str (pa_cons pe_str (pa_cons pe_str (pa_cons pe_str (pa_cons pe_str pa_nil)))))))) pa_nil)))), ?_⟩)
  · obtain ⟨a, g, c, cs, n, rfl, _⟩ := h
    rfl
  · obtain ⟨a, g, c, cs, n, rfl, hs, hn, q⟩ := h
    refine ⟨_, rfl, by show 7 ≤ sizeLine; decide, fun p np => ?_⟩
    obtain ⟨gs, r, t, h1, h2, h3, h4⟩ := hs.ex
    refine ⟨a, g, c, p, cs, n, lotsL.map V.str, rfl, hs.grows (Grows.new np), hn, upd_same, (ne_of_none h2 np).symm, by decide, by decide, fun H' x hx s' hb => ?_⟩
    obtain ⟨z, hz, rfl⟩ := List.mem_map.mp hx
    exact q H' z hz s' ((But.of (Grows.new np)).trans hb)
theorem scOdd : FnScope ["state", "letters"] ["state", "letters"] (defScope sOdd) := ⟨rfl, rfl, rfl, by decide +kernel, rfl, by decide +kernel, by decide +kernel⟩
theorem ok_odd {f f1 : Addr} {fd fd1 : FuncData} (F : L2.Fun K "_law_mo_odd_word" "_law_mo_odd_word" sOdd f fd) (G : FnOk P w K mg base CX0 3 f1 fd1 ["state", "some"] spPick) (D : Def mg K "_law_pick" f1 fd1 ["state", "some"]) : FnOk P w K mg base CX0 4 f fd ["state", "letters"] spOdd := by
  refine F.ok scOdd (fun vs H Q E h => ?_) (fun cdv A outer s H vs Q E hr h => ⟨_,
    pss_one (ps_ret (pe_call G hr (by rfl) D.g D.k D.b .nil pass0 (pa_cons (pv 0) (pa_cons (pe_lst (pa_cons pe_non (pa_cons pe_int (pa_cons (pe_tup (pa_cons pe_str pa_nil)) (pa_cons (pe_lst (pa_cons pe_str pa_nil)) (pa_cons pe_str (pa_cons pe_str (pa_cons (pe_op op_add_str (pv 1) pe_str) (pa_cons pe_bl pa_nil))))))))) pa_nil)))), ?_⟩)
  · obtain ⟨a, g, c, cs, n, ls, rfl, _⟩ := h
    rfl
  · obtain ⟨a, g, c, cs, n, ls, rfl, hls, hs, hn, q⟩ := h
    refine ⟨_, rfl, by show 1 ≤ sizeLine; decide, fun t nt => ?_⟩
    have g1 : Grows H (upd H t (.tup [.str "a"])) := Grows.new nt
    have kt : upd H t (.tup [.str "a"]) t = some (.tup [.str "a"]) := upd_same
    generalize upd H t (.tup [.str "a"]) = H1 at g1 kt ⊢
    refine ⟨by show 1 ≤ sizeLine; decide, fun l nl => ?_⟩
    have g2 : Grows H1 (upd H1 l (.lst [.str "a"])) := Grows.new nl
    have kl : upd H1 l (.lst [.str "a"]) l = some (.lst [.str "a"]) := upd_same
    generalize upd H1 l (.lst [.str "a"]) = H2 at g2 kl ⊢
    refine ⟨_, rfl, ls, "q", rfl, rfl, (by show ls.length + 1 ≤ sizeLine; have : sizeLine = 16777216 := sizeLine_eq; omega), by show 8 ≤ sizeLine; decide, fun p np => ?_⟩
    have g3 := Grows.new (o := .lst [.non, .int 5, .ref t, .ref l, .str "A", .str "a b", .str (ls ++ "q"), .bl true]) np
    have g12 := (g1.trans g2).trans g3
    have hs2 := hs.grows g12
    obtain ⟨gs, r, tt, h1, h2, h3, h4⟩ := (hs.grows (g1.trans g2)).ex
    obtain ⟨_, _, _, h1', h2', _⟩ := hs.ex
    have pg : p ≠ g := (ne_of_none h2 np).symm
    have ta : t ≠ a := (ne_of_none h1' nt).symm
    have tg : t ≠ g := (ne_of_none h2' nt).symm
    have la : l ≠ a := (ne_of_none (g1 _ _ h1') nl).symm
    have lg : l ≠ g := (ne_of_none (g1 _ _ h2') nl).symm
    refine ⟨a, g, c, p, cs, n, _, rfl, hs2, hn, upd_same, pg, by simp, by show 8 ≤ 1000000; decide, fun H' x hx s' hb => q H' x ?_ s' ((But.of g12).trans hb)⟩
    simp only [List.mem_cons, List.not_mem_nil, or_false] at hx
    rcases hx with e | e | e | e | e | e | e | e
    · exact .inl e
    · exact .inr (.inl e)
    · exact .inr (.inr (.inl ⟨t, e, hb t _ (g3 _ _ (g2 _ _ kt)) ta tg⟩))
    · exact .inr (.inr (.inr (.inl ⟨l, e, hb l _ (g3 _ _ kl) la lg⟩)))
    · exact .inr (.inr (.inr (.inr (.inl e))))
    · exact .inr (.inr (.inr (.inr (.inr (.inl e)))))
    · exact .inr (.inr (.inr (.inr (.inr (.inr (.inl e))))))
    · exact .inr (.inr (.inr (.inr (.inr (.inr (.inr e))))))
theorem scMoS : FnScope ["word", "other", "at", "letter"] ["word", "other"] (defScope sMoS) := ⟨rfl, rfl, rfl, by decide +kernel, rfl, by decide +kernel, by decide +kernel⟩
theorem ok_moS {f : Addr} {fd : FuncData} (F : L2.Fun K "_law_mo_strewn" "_law_mo_strewn" sMoS f fd) (B : Blt mg) : FnOk P w K mg base CX0 1 f fd ["word", "other"] spIsS := by
  refine F.ok scMoS (fun vs H Q E h => ?_) (fun cdv A outer s H vs Q E hr h => ⟨_,
    pss_cons (ps_set (i := 2) scMoS.nd rfl (Or.inl rfl) pe_int)
    (pss_cons (ps_for PassesOwn.never rfl (pi_str (pv 1)) (pg_name (i := 3) scMoS.nd rfl (Or.inl rfl))
      (pss_one (ps_if (pw_and (pt_cmpR op_lt (pv 2) (pe_callB call_len_str (by rfl) B.len PySem.boot_len (pa_cons (pv 0) pa_nil)) (nomark _)) (pw_and1 (pt_cmpR op_eq (pe_ix ix_str (pv 0) (pv 2) (fun _ _ => rfl)) (pv 3) (nomark _)))).pt (pss_one (ps_set (i := 2) scMoS.nd rfl (Or.inl rfl) (pe_op op_add (pv 2) pe_int))) pss_nil)))
    (pss_one (ps_ret (pe_cmpR op_eq (pv 2) (pe_callB call_len_str (by rfl) B.len PySem.boot_len (pa_cons (pv 0) pa_nil)) (nomark _))))), ?_⟩)
  · obtain ⟨a, b, rfl, _⟩ := h
    rfl
  · obtain ⟨a, b, rfl, ha, hb, q⟩ := h
    refine ⟨_, rfl, b, rfl, for_it walk_str (fun i σ H' => H' = H ∧ ∃ v : Option V, σ = [some (.str a), some (.str b), some (.int ((b.cps.toList.take i).foldl (adv a.cps.toList) 0 : Nat)), v]) ⟨rfl, none, rfl⟩ (fun _ _ _ _ _ => trivial) ?_ ?_⟩
    · rintro i x σ H1 H' hi ⟨rfl, v, rfl⟩ ⟨rfl, c, hc, rfl⟩
      have hc' : b.cps.toList[i]? = some c := by rw [Array.getElem?_toList]; exact hc
      have ht : (b.cps.toList.take (i + 1)).foldl (adv a.cps.toList) 0 = adv a.cps.toList ((b.cps.toList.take i).foldl (adv a.cps.toList) 0) c := by
        rw [take_snoc hc', List.foldl_append]
        rfl
      generalize hat : (b.cps.toList.take i).foldl (adv a.cps.toList) 0 = at_ at ht ⊢
      have hle : at_ ≤ a.length := by
        rw [← hat, ← cut_len]
        exact adv_le _ _ _ (Nat.zero_le _)
      refine ⟨_, rfl, _, rfl, a, rfl, ha, _, _, rfl, rfl, _, rfl, ?_⟩
      by_cases hlt : at_ < a.length
      · refine if_pos_of (decide_eq_true (by omega)) ?_
        have hlt2 : at_ < a.cps.toList.length := by rw [cut_len]; exact hlt
        have hget : a.cps.toList[at_]? = some a.cps.toList[at_] := List.getElem?_eq_getElem hlt2
        refine ⟨_, rfl, _, rfl, a, at_, a.cps.toList[at_], rfl, rfl, ha, atI_nat hget, _, rfl, rfl, _, rfl, ?_⟩
        by_cases he : a.cps.toList[at_] = c
        · refine if_pos_of (decide_eq_true (by rw [he])) ?_
          have e : adv a.cps.toList at_ c = at_ + 1 := if_pos (by rw [hget, he])
          rw [e] at ht
          refine ⟨_, rfl, _, _, rfl, rfl, rfl, some (.str ⟨#[c]⟩), ?_⟩
          rw [ht]
          rfl
        · refine if_neg_of (by rw [decide_eq_false (fun z => he (by simpa using z))]; decide) ?_
          have e : adv a.cps.toList at_ c = at_ := if_neg (by rw [hget]; intro z; exact he (Option.some.inj z))
          rw [e] at ht
          refine ⟨rfl, some (.str ⟨#[c]⟩), ?_⟩
          rw [ht]
          rfl
      · refine if_neg_of (by rw [decide_eq_false (by omega)]; decide) ?_
        have e : adv a.cps.toList at_ c = at_ := if_neg (by rw [List.getElem?_eq_none (by rw [cut_len]; omega)]; intro z; cases z)
        rw [e] at ht
        refine if_neg_of (by decide) ⟨rfl, some (.str ⟨#[c]⟩), ?_⟩
        rw [ht]
        rfl
    · rintro σ H' ⟨rfl, v, rfl⟩
      have et : b.cps.toList.take b.cps.size = b.cps.toList := List.take_of_length_le (by rw [Array.length_toList]; exact Nat.le_refl _)
      rw [et]
      refine ⟨_, rfl, _, rfl, a, rfl, ha, rfl, ?_⟩
      have e : decide (V.int ((b.cps.toList.foldl (adv a.cps.toList) 0 : Nat) : Int) = V.int (a.length : Int)) = strewnB a b := by
        unfold strewnB
        refine decide_eq_decide.mpr ⟨fun z => ?_, fun z => by rw [z]⟩
        have := V.int.inj z
        omega
      rw [e]
      exact q
end
end SWL
set_option Elab.async false
set_option linter.all false
set_option maxRecDepth 100000
set_option maxHeartbeats 4000000
namespace SWL
open PySem PySem.Spec PyProof.Rows L2 LamX
/-! the law's own least words -/
section
variable {α β : Type} [DecidableEq α] [DecidableEq β]
def oneMoreG (acc : List α) (k : α) : List α := if acc.any (fun z => decide (z = k)) = true then acc else acc ++ [k]
def firstsG (ks : List α) : List α := ks.foldl oneMoreG []
theorem oneMoreG_map {f : α → β} (hf : ∀ a b, f a = f b → a = b) (acc : List α) (k : α) : oneMoreG (acc.map f) (f k) = (oneMoreG acc k).map f := by
  unfold oneMoreG
  have e : (acc.map f).any (fun z => decide (z = f k)) = acc.any (fun z => decide (z = k)) := by
    rw [List.any_map]
    congr 1
    funext z
    exact decide_eq_decide.mpr ⟨hf z k, fun h => by rw [h]⟩
  rw [e]
  split
  · rfl
  · rw [List.map_append]
    rfl
theorem firstsG_map {f : α → β} (hf : ∀ a b, f a = f b → a = b) (ks : List α) : firstsG (ks.map f) = (firstsG ks).map f := by
  have gen : ∀ (ks acc : List α), (ks.map f).foldl oneMoreG (acc.map f) = (ks.foldl oneMoreG acc).map f := by
    intro ks
    induction ks with
    | nil => intro acc; rfl
    | cons k ks ih =>
      intro acc
      rw [List.map_cons, List.foldl_cons, oneMoreG_map hf, ih]
      rfl
  exact gen ks []
theorem oneMoreG_mem {acc : List α} {k z : α} : z ∈ oneMoreG acc k ↔ z ∈ acc ∨ z = k := by
  unfold oneMoreG
  split
  · rename_i h
    obtain ⟨y, hy, e⟩ := List.any_eq_true.mp h
    have e' := of_decide_eq_true e
    constructor
    · exact .inl
    · rintro (h | h)
      · exact h
      · rw [h, ← e']
        exact hy
  · simp
theorem firstsG_mem {ks : List α} {z : α} : z ∈ firstsG ks ↔ z ∈ ks := by
  have gen : ∀ (ks acc : List α), z ∈ ks.foldl oneMoreG acc ↔ z ∈ acc ∨ z ∈ ks := by
    intro ks
    induction ks with
    | nil => intro acc; simp
    | cons k ks ih =>
      intro acc
      rw [List.foldl_cons, ih, oneMoreG_mem, List.mem_cons, or_assoc]
  have := gen ks []
  simpa [firstsG] using this
theorem firstsG_len (ks : List α) : (firstsG ks).length ≤ ks.length := by
  have gen : ∀ (ks acc : List α), (ks.foldl oneMoreG acc).length ≤ acc.length + ks.length := by
    intro ks
    induction ks with
    | nil => intro acc; exact Nat.le_refl _
    | cons k ks ih =>
      intro acc
      rw [List.foldl_cons]
      have h := ih (oneMoreG acc k)
      have h2 : (oneMoreG acc k).length ≤ acc.length + 1 := by
        unfold oneMoreG
        split
        · omega
        · rw [List.length_append]; exact Nat.le_refl _
      rw [List.length_cons]
      omega
  simpa [firstsG] using gen ks []
end
theorem firsts_G (ks : List (List Key)) : firsts ks = firstsG ks := rfl
def keyW (z : Str) : List Key := [.inl (z.length : Int), .inr z]
theorem keyW_inj : ∀ a b, keyW a = keyW b → a = b := fun a b h => by
  have h2 := List.cons.inj (List.cons.inj h).2
  exact Sum.inr.inj h2.1
def PyStr (z : Str) : Prop := z.length ≤ sizeLine ∧ PyData.strOk z = true
def dWords (ws : List Str) : PyData := .list (ws.map PyData.str)
theorem dp_strs {K : PySem.W.Frag} {H : Hp} : ∀ {l : List Str}, DpAll K H (l.map V.str) (l.map PyData.str)
  | [] => .nil
  | x :: l => .cons (.str x) dp_strs
theorem can_strs : ∀ {l : List Str}, (∀ z ∈ l, PyData.strOk z = true) → PyData.canLayAll0 (l.map PyData.str) = true
  | [], _ => rfl
  | x :: l, h => by
    have h1 := h x List.mem_cons_self
    have h2 := can_strs fun z hz => h z (List.mem_cons_of_mem x hz)
    simp [PyData.canLayAll0, PyData.canLay0, h1, h2]
theorem dep_strs : ∀ l : List Str, PyData.depthAll (l.map PyData.str) = 0
  | [] => rfl
  | x :: l => by
    rw [List.map_cons, PyData.depthAll, dep_strs l]
    rfl
theorem shaped_strs {l : List Str} (h : ∀ z ∈ l, PyData.strOk z = true) : SeqAt.shaped (dWords l) = true := by
  unfold SeqAt.shaped dWords
  rw [Bool.and_eq_true]
  refine ⟨by rw [PyData.canLay0]; exact can_strs h, decide_eq_true ?_⟩
  rw [PyData.depth, dep_strs]
  decide
theorem eqv_strs_nil (l : List Str) : PyData.eqv (dWords l) (.list []) = decide (l = []) := by
  cases l <;> rfl
def spMoLeast (K : PySem.W.Frag) : Sp := fun vs H Q _ => ∃ (a : Addr) (ws : List Str), vs = [.ref a] ∧ SqL K H a (ws.map V.str) ∧ ws.length ≤ 1000000 ∧ (∀ z ∈ ws, PyStr z) ∧ ∀ H' p, Grows H H' → H' p = some (.lst ((leastF (sortW (firstsG ws))).map V.str)) → H p = none → Q (.ref p) H'
section
variable {P : Program} {w : World} {K : PySem.W.Frag} {mg : Str → Option Value} {base : Heap}
theorem scMoLeast : FnScope ["words", "found", "word", "one"] ["words"] (defScope sMoLeast) := ⟨rfl, rfl, rfl, by decide +kernel, rfl, by decide +kernel, by decide +kernel⟩
theorem ok_moLeast {f f1 : Addr} {fd fd1 : FuncData} (F : L2.Fun K "_law_mo_least" "_law_mo_least" sMoLeast f fd) (B : Blt mg) (G : FnOk P w K mg base CX0 1 f1 fd1 ["word", "other"] spIsS) (D : Def mg K "_law_mo_strewn" f1 fd1 ["word", "other"]) : FnOk P w K mg base CX0 3 f fd ["words"] (spMoLeast K) := by
  refine F.ok scMoLeast (fun vs H Q E h => ?_) (fun cdv A outer s H vs Q E hr h => ⟨_,
    pss_cons (ps_set (i := 1) scMoLeast.nd rfl (Or.inl rfl) (pe_lst pa_nil))
    (pss_cons (ps_for PassesOwn.never rfl (pi_list (pe_sortedDict rfl (by have := hr.un; show (A.deeper _).units + 64 < _; omega) (by rfl) B.sorted (by rfl) B.dict
        (pe_lc (own := [("word", 2)]) (g := gName 2) (tt := tYes) rfl scMoLeast.nd (pi_list (pv 0)) (blkOk_by (N := ["words", "found", "word", "one"]) (sc := defScope sMoLeast) (by decide +kernel)) (fun _ _ _ _ _ => pg_name (i := 2) scMoLeast.nd rfl (Or.inl rfl)) (fun _ _ _ _ _ => pts_nil)
          (fun _ _ _ _ _ => pe_tup (pa_cons (pe_tup (pa_cons (pe_callB call_len_str (by rfl) B.len PySem.boot_len (pa_cons (pv 2) pa_nil)) (pa_cons (pv 2) pa_nil))) (pa_cons pe_bl pa_nil)))))) (pg_name (i := 2) scMoLeast.nd rfl (Or.inr rfl))
      (pss_one (ps_if (pt_cmpR (op_eqD (by have := hr.un; show (A.deeper _).units + 64 < _; omega))
          (pe_lc (own := [("one", 3)]) (g := gName 3) (tt := fun σ H Q => tCall spIsS [] E0 (tCons (tVar 3) (tCons (tOp (rIxT K) (tVar 2) (tC (.int 1))) tNil)) σ H fun x H' => ∃ k, TruV K x H' k ∧ Q k H') rfl scMoLeast.nd (pi_list (pv 1)) (blkOk_by (N := ["words", "found", "word", "one"]) (sc := defScope sMoLeast) (by decide +kernel)) (fun _ _ _ _ _ => pg_name (i := 3) scMoLeast.nd rfl (Or.inl rfl))
            (fun _ _ _ _ _ => pts_one (pt_truth (pe_call G (hr.mono (by decide)) (by rfl) D.g D.k D.b .nil pass0 (pa_cons (pv 3) (pa_cons (pe_ix ix_tup (pv 2) pe_int (fun _ _ => rfl)) pa_nil))) (by intro _; rfl)))
            (fun _ _ _ _ _ => pv 3)) (pe_lst pa_nil) (nomark _))
        (pss_one (ps_expr (pe_bm PySem.F.plainAttrs_list PySem.F.slot_list_append PySem.F.type_list_append mt_append (pv 1) (pa_cons (pe_ix ix_tup (pv 2) pe_int (fun _ _ => rfl)) pa_nil)))) pss_nil)))
    (pss_one (ps_ret (pv 1)))), ?_⟩)
  · obtain ⟨a, ws, rfl, _⟩ := h
    rfl
  · obtain ⟨a, ws, rfl, hs, hn, hz, q⟩ := h
    have sz : sizeLine = 16777216 := sizeLine_eq
    refine ⟨by show 0 ≤ sizeLine; decide, fun F nF => ?_⟩
    have gF : Grows H (upd H F (.lst [])) := Grows.new nF
    have kF : upd H F (.lst []) F = some (.lst []) := upd_same
    generalize upd H F (.lst []) = H1 at gF kF ⊢
    refine ⟨_, rfl, a, rfl, ⟨_, gF.l hs⟩, fun D nD => lc_it (n := (ws.map V.str).length) walk_list
      (fun i H' => Grows H1 H' ∧ ∃ ps : List PairIn, ps.map PairIn.key = (ws.take i).map keyW ∧ (∀ p ∈ ps, p.ok H') ∧ H' D = some (.lst (ps.map fun p => V.ref p.at_)))
      ⟨Grows.new nD, [], rfl, (fun p hp => by cases hp), upd_same⟩ (fun i H' _ h => h.1.l (gF.l hs)) ?_ ?_⟩
    · rintro i x H2 H3 hi ⟨g, ps, hps, hok, hD⟩ ⟨rfl, hx⟩
      rw [List.getElem?_map] at hx
      obtain ⟨z, hzi, rfl⟩ : ∃ z, ws[i]? = some z ∧ x = .str z := by
        cases e : ws[i]? with
        | none => rw [e] at hx; cases hx
        | some z => rw [e] at hx; exact ⟨z, rfl, (Option.some.inj hx).symm⟩
      have hzm := List.mem_of_getElem? hzi
      have hlt := (List.getElem?_eq_some_iff.mp hzi).1
      refine ⟨rfl, _, rfl, z, rfl, (hz z hzm).1, _, rfl, by show 2 ≤ sizeLine; decide, fun k nk => ?_⟩
      have g1 : Grows H3 (upd H3 k (.tup [.int z.length, .str z])) := Grows.new nk
      have kk : upd H3 k (.tup [.int z.length, .str z]) k = some (.tup ((keyW z).map kV)) := upd_same
      generalize upd H3 k (.tup [.int z.length, .str z]) = H4 at g1 kk ⊢
      refine ⟨by show 2 ≤ sizeLine; decide, fun t nt => ?_⟩
      have g2 : Grows H4 (upd H4 t (.tup [.ref k, .bl true])) := Grows.new nt
      have kt : upd H4 t (.tup [.ref k, .bl true]) t = some (.tup [.ref k, .bl true]) := upd_same
      generalize upd H4 t (.tup [.ref k, .bl true]) = H5 at g2 kt ⊢
      have hD5 := g2 _ _ (g1 _ _ hD)
      have hplen : ps.length = i := by
        have := congrArg List.length hps
        rw [List.length_map, List.length_map, List.length_take] at this
        omega
      refine ⟨_, hD5, by rw [List.length_map, hplen]; omega, fun b o e => ?_, ps ++ [⟨t, k, keyW z, .bl true⟩], ?_, fun p hp => ?_, ?_⟩
      · rw [upd_ne (ne_of_none e nD)]
        exact g2 _ _ (g1 _ _ (g _ _ e))
      · rw [List.map_append, hps, take_snoc hzi, List.map_append]
        rfl
      · have keep : ∀ (b : Addr) (xs : List V), H5 b = some (.tup xs) → upd H5 D (.lst (ps.map (fun p => V.ref p.at_) ++ [V.ref t])) b = some (.tup xs) := fun b xs e => by
          rw [upd_ne (ne_of e hD5 (by intro z; cases z))]
          exact e
        rcases List.mem_append.mp hp with hp | hp
        · obtain ⟨q1, q2⟩ := hok p hp
          exact ⟨keep _ _ (g2 _ _ (g1 _ _ q1)), keep _ _ (g2 _ _ (g1 _ _ q2))⟩
        · cases List.mem_singleton.mp hp
          exact ⟨keep _ _ kt, keep _ _ (g2 _ _ kk)⟩
      · rw [upd_same, List.map_append]
        rfl
    · rintro H2 ⟨g, ps, hps, hok, hD⟩
      rw [List.length_map, List.take_length] at hps
      have hfk : firsts (ps.map PairIn.key) = (firstsG ws).map keyW := by rw [hps, firsts_G, firstsG_map keyW_inj]
      have hal : ∀ l : List Str, PySem.W.AllAlike ((l.map keyW).map encT) := fun l => by
        have := alike_ords l
        rw [List.map_map] at this ⊢
        exact this
      refine ⟨D, ps, rfl, hD, hok, by rw [hfk]; exact hal _, fun p hp e => ?_, fun out hout hsnd L nL => ?_⟩
      · have hm : p.key ∈ ps.map PairIn.key := List.mem_map.mpr ⟨p, hp, rfl⟩
        rw [hps] at hm
        obtain ⟨z, _, ez⟩ := List.mem_map.mp hm
        rw [e] at ez
        cases ez
      · rw [hfk] at hsnd
        have hsnd2 : out.map (·.2) = (sortW (firstsG ws)).map keyW := by
          rw [hsnd]
          exact (PySem.W.sort_maps keyW fun _ _ _ _ => rfl).symm
        generalize hS : sortW (firstsG ws) = S at hsnd2 q
        have Sm : ∀ z ∈ S, z ∈ ws := fun z h => by
          rw [← hS] at h
          exact firstsG_mem.mp (sortW_mem.mp h)
        have Sl : S.length ≤ ws.length := by
          rw [← hS, sortW_len]
          exact firstsG_len ws
        have ol : out.length = S.length := by
          have := congrArg List.length hsnd2
          rw [List.length_map, List.length_map] at this
          exact this
        have gL : Grows H2 (upd H2 L (.lst (out.map fun q => V.ref q.1))) := Grows.new nL
        have kL : upd H2 L (.lst (out.map fun q => V.ref q.1)) L = some (.lst (out.map fun q => V.ref q.1)) := upd_same
        generalize upd H2 L (.lst (out.map fun q => V.ref q.1)) = H3 at gL kL ⊢
        have g03 := (gF.trans g).trans gL
        have kF3 := gL _ _ (g _ _ kF)
        have LF : L ≠ F := (ne_of_none (g _ _ kF) nL).symm
        refine ⟨L, rfl, ⟨_, .inl (.inl kL)⟩, for_list (K := K) (a := L) (xs := out.map fun q => V.ref q.1)
          (fun i σ H' => Grows H H' ∧ H' L = some (.lst (out.map fun q => V.ref q.1)) ∧ (∀ q ∈ out, H' q.1 = some (.tup (q.2.map kV))) ∧ H' F = some (.lst ((leastF (S.take i)).map V.str)) ∧ ∃ v2 v3 : Option V, σ = [some (.ref a), some (.ref F), v2, v3])
          ⟨g03, kL, fun q hq => gL _ _ (hout q hq), kF3, none, none, rfl⟩ (fun i σ H' _ h => .inl (.inl h.2.1)) ?_ ?_⟩
        · rintro i x σ H4 hi ⟨g4, hL4, ho4, hF4, v2, v3, rfl⟩
          rw [List.getElem?_map] at hi
          obtain ⟨y, hy, rfl⟩ : ∃ y, out[i]? = some y ∧ x = .ref y.1 := by
            cases e : out[i]? with
            | none => rw [e] at hi; cases hi
            | some y => rw [e] at hi; exact ⟨y, rfl, (Option.some.inj hi).symm⟩
          have hy2 : S[i]?.map keyW = some y.2 := by
            have := congrArg (fun l => l[i]?) hsnd2
            simp only [List.getElem?_map, hy, Option.map_some] at this
            exact this.symm
          obtain ⟨z, hzi, hyz⟩ : ∃ z, S[i]? = some z ∧ y.2 = keyW z := by
            cases e : S[i]? with
            | none => rw [e] at hy2; cases hy2
            | some z => rw [e] at hy2; exact ⟨z, rfl, (Option.some.inj hy2).symm⟩
          have hzS : z ∈ S := List.mem_of_getElem? hzi
          have hzp := hz z (Sm z hzS)
          have hlt := (List.getElem?_eq_some_iff.mp hzi).1
          have hF : leastF (S.take (i + 1)) = stepF (leastF (S.take i)) z := by rw [take_snoc hzi, leastF_snoc]
          have fm : ∀ o ∈ leastF (S.take i), PyStr o := fun o ho => hz o (Sm o (List.mem_of_mem_take (leastF_mem _ ho)))
          have fl : (leastF (S.take i)).length ≤ S.length := Nat.le_trans (leastF_len _) mem_take_len
          have hty := ho4 y (List.mem_of_getElem? hy)
          rw [hyz] at hty
          have at1 : atI ((keyW z).map kV) (1 : Int) = some (V.str z) := atI_nat (j := 1) rfl
          generalize hfo : leastF (S.take i) = fo at hF fm fl hF4
          refine ⟨_, rfl, F, rfl, ⟨_, .inl (.inl hF4)⟩, fun D2 nD2 => comp (i := 3) (te := tVar 3) (tt := fun σ H Q => tCall spIsS [] E0 (tCons (tVar 3) (tCons (tOp (rIxT K) (tVar 2) (tC (.int 1))) tNil)) σ H fun x H' => ∃ k, TruV K x H' k ∧ Q k H') (xs := fo.map V.str) (walk_list (K := K) (a := F)) (fun o => match o with | .str o => strewnB o z | _ => false) (fun o => o) nD2 (fun H g' => g'.l (.inl (.inl hF4))) (by rw [List.length_map]; omega) (fun x H5 k hx g5 hk => ?_) (fun x H5 Q hx _ g5 hq => ?_) (fun H5 g5 hD2 => ?_)⟩
          · obtain ⟨o, ho, rfl⟩ := List.mem_map.mp hx
            exact ⟨_, rfl, _, rfl, y.1, _, 1, .str z, rfl, rfl, .inl (.inl (g5 _ _ hty)), at1, o, z, rfl, (fm o ho).1, hzp.1, strewnB o z, rfl, hk H5 (Grows.refl H5)⟩
          · exact ⟨_, rfl, hq H5 (Grows.refl H5)⟩
          · have ef : ((fo.map V.str).filter (fun o => match o with | .str o => strewnB o z | _ => false)).map (fun o => o) = (fo.filter fun o => strewnB o z).map V.str := by
              rw [List.filter_map, List.map_id']
              rfl
            rw [ef] at hD2
            refine ⟨by show 0 ≤ sizeLine; decide, fun p2 np2 => ?_⟩
            have g6 : Grows H5 (upd H5 p2 (.lst [])) := Grows.new np2
            have k6 : upd H5 p2 (.lst []) p2 = some (.lst []) := upd_same
            generalize upd H5 p2 (.lst []) = H6 at g6 k6 ⊢
            have g46 := g5.trans g6
            refine ⟨dWords (fo.filter fun o => strewnB o z), .list [], .lst (.inl (.inl (g6 _ _ hD2))) dp_strs, .lst (.inl (.inl k6)) .nil, shaped_strs fun o ho => (fm o (List.mem_filter.mp ho).1).2, rfl, _, rfl, ?_⟩
            rw [eqv_strs_nil]
            have hF6 := g46 _ _ hF4
            by_cases he : (fo.filter fun o => strewnB o z) = []
            · refine if_pos_of (decide_eq_true he) ?_
              have ea : ¬ (fo.any fun o => strewnB o z) = true := by
                intro h
                obtain ⟨o, ho, h2⟩ := List.any_eq_true.mp h
                have : o ∈ fo.filter fun o => strewnB o z := List.mem_filter.mpr ⟨ho, h2⟩
                rw [he] at this
                cases this
              have e3 : stepF fo z = fo ++ [z] := if_neg ea
              refine ⟨_, rfl, Or.inl ⟨rfl, _, .inl (.inl hF6)⟩, _, rfl, y.1, _, 1, .str z, rfl, rfl, .inl (.inl (g46 _ _ hty)), at1, F, _, _, rfl, rfl, hF6, by rw [List.length_map]; omega, ?_⟩
              refine ⟨fun b o e => ?_, ?_, fun q hq => ?_, ?_, some (.ref y.1), v3, rfl⟩
              · rw [upd_ne (ne_of_none e nF)]
                exact g46 _ _ (g4 b o e)
              · rw [upd_ne LF]
                exact g46 _ _ hL4
              · have := g46 _ _ (ho4 q hq)
                rw [upd_ne (ne_of this hF6 (by intro z; cases z))]
                exact this
              · rw [upd_same, hF, e3, List.map_append]
                rfl
            · refine if_neg_of (by rw [decide_eq_false he]; decide) ?_
              have ea : (fo.any fun o => strewnB o z) = true := by
                obtain ⟨o, ho⟩ := List.exists_mem_of_ne_nil _ he
                exact List.any_eq_true.mpr ⟨o, (List.mem_filter.mp ho).1, (List.mem_filter.mp ho).2⟩
              have e3 : stepF fo z = fo := if_pos ea
              refine ⟨g4.trans g46, g46 _ _ hL4, fun q hq => g46 _ _ (ho4 q hq), ?_, some (.ref y.1), v3, rfl⟩
              rw [hF, e3]
              exact hF6
        · rintro σ H' ⟨g4, _, _, hF4, v2, v3, rfl⟩
          rw [List.length_map, ol, List.take_length] at hF4
          exact ⟨_, rfl, q H' F g4 hF4 nF⟩
end
end SWL
set_option Elab.async false
set_option linter.all false
set_option maxRecDepth 100000
set_option maxHeartbeats 4000000
namespace SWL
open PySem PySem.Spec PyProof.Rows L2 LamX
/-! the mathematics of the least words -/
theorem snoc_ind {α : Type} {P : List α → Prop} (h0 : P []) (h : ∀ l w, P l → P (l ++ [w])) (l : List α) : P l := by
  have gen : ∀ (r l : List α), P l → P (l ++ r) := by
    intro r
    induction r with
    | nil => intro l hl; rw [List.append_nil]; exact hl
    | cons w r ih =>
      intro l hl
      have := ih (l ++ [w]) (h l w hl)
      rw [List.append_assoc] at this
      exact this
  exact gen l [] h0
def leW (a b : Str) : Bool := leV (.str a) (.str b)
theorem leW_total : PySem.W.TotalLe leW := PySem.W.sortLe_total (PyProof.Rows.listOrd PyProof.Rows.itemOrd) false fun z : Str => PySem.W.keyToks (ordD (.str z))
theorem leW_lt (a b : Str) : leW a b = !PySem.W.dataLt (.tuple [.int b.length, .str b]) (.tuple [.int a.length, .str a]) := rfl
theorem lt_pair (a b : Str) : PySem.W.dataLt (.tuple [.int a.length, .str a]) (.tuple [.int b.length, .str b]) = if (a.length : Int) = b.length then (if a = b then false else decide (a.cps.toList < b.cps.toList)) else decide ((a.length : Int) < b.length) := by
  rw [PySem.W.dataLt_pair (by rfl) (by rfl), PySem.W.dataLt_int, PySem.W.dataLt_str]
  simp only [PyData.eqv, beq_iff_eq]
theorem leW_anti {a b : Str} (h1 : leW a b = true) (h2 : leW b a = true) : a = b := by
  rw [leW_lt, lt_pair] at h1 h2
  by_cases e : (a.length : Int) = b.length
  · rw [if_pos e.symm] at h1
    rw [if_pos e] at h2
    by_cases e2 : a = b
    · exact e2
    · rw [if_neg (fun z => e2 z.symm)] at h1
      rw [if_neg e2] at h2
      have n1 : ¬ b.cps.toList < a.cps.toList := by simpa using h1
      have n2 : ¬ a.cps.toList < b.cps.toList := by simpa using h2
      exact PySem.W.str_of_cps (List.le_antisymm (List.not_lt.mp n1) (List.not_lt.mp n2))
  · rw [if_neg (fun z => e z.symm)] at h1
    rw [if_neg e] at h2
    have n1 : ¬ ((b.length : Int) < a.length) := by simpa using h1
    have n2 : ¬ ((a.length : Int) < b.length) := by simpa using h2
    omega
theorem sortW_pw (ws : List Str) : (sortW ws).Pairwise fun a b => leW a b = true := PySem.W.sort_pairwise leW_total ws
theorem firstsG_nodup {α : Type} [DecidableEq α] (ks : List α) : (firstsG ks).Nodup := by
  have gen : ∀ (ks acc : List α), acc.Nodup → (ks.foldl oneMoreG acc).Nodup := by
    intro ks
    induction ks with
    | nil => intro acc h; exact h
    | cons k ks ih =>
      intro acc h
      rw [List.foldl_cons]
      refine ih _ ?_
      unfold oneMoreG
      split
      · exact h
      · rename_i hn
        rw [List.nodup_append]
        refine ⟨h, by simp, fun x hx y hy e => ?_⟩
        rw [List.mem_singleton.mp hy] at e
        exact hn (List.any_eq_true.mpr ⟨x, hx, decide_eq_true e⟩)
  exact gen ks [] List.nodup_nil
/-- sorted lists without doubles, of the same words, are one -/
theorem uniq : ∀ (l m : List Str), l.Pairwise (fun a b => leW a b = true) → m.Pairwise (fun a b => leW a b = true) → l.Nodup → m.Nodup → (∀ z, z ∈ l ↔ z ∈ m) → l = m
  | [], [], _, _, _, _, _ => rfl
  | [], b :: m, _, _, _, _, h => by
    have := (h b).mpr List.mem_cons_self
    cases this
  | a :: l, [], _, _, _, _, h => by
    have := (h a).mp List.mem_cons_self
    cases this
  | a :: l, b :: m, p1, p2, n1, n2, h => by
    obtain ⟨p1a, p1b⟩ := List.pairwise_cons.mp p1
    obtain ⟨p2a, p2b⟩ := List.pairwise_cons.mp p2
    obtain ⟨n1a, n1b⟩ := List.nodup_cons.mp n1
    obtain ⟨n2a, n2b⟩ := List.nodup_cons.mp n2
    have hab : a = b := by
      rcases List.mem_cons.mp ((h a).mp List.mem_cons_self) with e | e
      · exact e
      · rcases List.mem_cons.mp ((h b).mpr List.mem_cons_self) with e2 | e2
        · exact e2.symm
        · exact leW_anti (p1a b e2) (p2a a e)
    subst hab
    rw [uniq l m p1b p2b n1b n2b fun z => ?_]
    constructor
    · intro hz
      rcases List.mem_cons.mp ((h z).mp (List.mem_cons_of_mem _ hz)) with e | e
      · rw [e] at hz
        exact absurd hz n1a
      · exact e
    · intro hz
      rcases List.mem_cons.mp ((h z).mpr (List.mem_cons_of_mem _ hz)) with e | e
      · rw [e] at hz
        exact absurd hz n2a
      · exact e
theorem oneMoreG_sub {α : Type} [DecidableEq α] : ∀ (l : List α), (firstsG l).Sublist l := by
  refine snoc_ind (List.Sublist.refl _) fun l w ih => ?_
  have e : firstsG (l ++ [w]) = oneMoreG (firstsG l) w := by
    unfold firstsG
    rw [List.foldl_append]
    rfl
  rw [e]
  unfold oneMoreG
  split
  · exact ih.trans (List.sublist_append_left _ _)
  · exact ih.append (List.Sublist.refl _)
theorem sortW_nodup {ws : List Str} (h : ws.Nodup) : (sortW ws).Nodup := (List.mergeSort_perm ws _).nodup_iff.mpr h
theorem firsts_sort (ws : List Str) : firstsG (sortW ws) = sortW (firstsG ws) :=
  uniq _ _ ((sortW_pw ws).sublist (oneMoreG_sub _)) (sortW_pw _) (firstsG_nodup _) (sortW_nodup (firstsG_nodup _)) fun z => by
    rw [firstsG_mem, sortW_mem, sortW_mem, firstsG_mem]
/-! covering -/
theorem strewn_self (w : Str) : strewnB w w = true := by
  unfold strewnB
  refine decide_eq_true ?_
  have gen : ∀ n, n ≤ w.cps.toList.length → (w.cps.toList.take n).foldl (adv w.cps.toList) 0 = n := by
    intro n
    induction n with
    | zero => intro _; rfl
    | succ n ih =>
      intro hn
      have hget : w.cps.toList[n]? = some w.cps.toList[n] := List.getElem?_eq_getElem (by omega)
      rw [take_snoc hget, List.foldl_append, ih (by omega)]
      exact if_pos hget
  have := gen w.cps.toList.length (Nat.le_refl _)
  rw [List.take_length] at this
  rw [this, cut_len]
theorem strewn_nil (w : Str) : strewnB "" w = true := by
  unfold strewnB
  refine decide_eq_true ?_
  have gen : ∀ l : List Nat, l.foldl (adv ("" : Str).cps.toList) 0 = 0 := by
    intro l
    induction l with
    | nil => rfl
    | cons c l ih =>
      rw [List.foldl_cons]
      exact ih
  exact gen _
theorem step_cov {f : List Str} {w z : Str} (h : f.any (fun o => strewnB o z) = true) : (stepF f w).any (fun o => strewnB o z) = true := by
  unfold stepF
  split
  · exact h
  · rw [List.any_append, h]
    rfl
theorem step_self (f : List Str) (w : Str) : (stepF f w).any (fun o => strewnB o w) = true := by
  unfold stepF
  split
  · assumption
  · rw [List.any_append]
    simp [strewn_self]
theorem least_cov : ∀ (l : List Str) (w : Str), w ∈ l → (leastF l).any (fun o => strewnB o w) = true := by
  refine snoc_ind (fun w h => by cases h) fun l w ih z hz => ?_
  rw [leastF_snoc]
  rcases List.mem_append.mp hz with h | h
  · exact step_cov (ih z h)
  · rw [List.mem_singleton.mp h]
    exact step_self _ _
theorem least_firsts : ∀ l : List Str, leastF l = leastF (firstsG l) := by
  refine snoc_ind rfl fun l w ih => ?_
  have e : firstsG (l ++ [w]) = oneMoreG (firstsG l) w := by
    unfold firstsG
    rw [List.foldl_append]
    rfl
  rw [e, leastF_snoc]
  unfold oneMoreG
  split
  · rename_i h
    obtain ⟨y, hy, e2⟩ := List.any_eq_true.mp h
    have e3 : y = w := of_decide_eq_true e2
    rw [e3] at hy
    have hw : w ∈ l := firstsG_mem.mp hy
    rw [← ih]
    exact if_pos (least_cov l w hw)
  · rw [leastF_snoc, ih]
theorem least_same (ws : List Str) : leastF (sortW ws) = leastF (sortW (firstsG ws)) := by rw [least_firsts (sortW ws), firsts_sort]
theorem least_sub : ∀ l : List Str, (leastF l).Sublist l := by
  refine snoc_ind (List.Sublist.refl _) fun l w ih => ?_
  rw [leastF_snoc]
  unfold stepF
  split
  · exact ih.trans (List.sublist_append_left _ _)
  · exact ih.append (List.Sublist.refl _)
theorem least_idem : ∀ l : List Str, leastF (leastF l) = leastF l := by
  refine snoc_ind rfl fun l w ih => ?_
  rw [leastF_snoc]
  by_cases h : (leastF l).any (fun o => strewnB o w) = true
  · have e : stepF (leastF l) w = leastF l := if_pos h
    rw [e, ih]
  · have e : stepF (leastF l) w = leastF l ++ [w] := if_neg h
    rw [e, leastF_snoc, ih, e]
/-- the words due -/
def dueW (ws : List Str) : List Str := leastF (sortW (firstsG ws))
theorem due_twice (ws : List Str) : leastF (sortW (dueW ws ++ (dueW ws).reverse)) = dueW ws := by
  rw [least_same]
  have hs := least_sub (sortW (firstsG ws))
  have e : sortW (firstsG (dueW ws ++ (dueW ws).reverse)) = dueW ws :=
    uniq _ _ (sortW_pw _) ((sortW_pw _).sublist hs) (sortW_nodup (firstsG_nodup _)) ((sortW_nodup (firstsG_nodup ws)).sublist hs) fun z => by
      rw [sortW_mem, firstsG_mem]
      simp
  rw [e]
  exact least_idem _
theorem due_nil (ws : List Str) : leastF (sortW (ws ++ [("" : Str)])) = [("" : Str)] := by
  have hm : ("" : Str) ∈ sortW (ws ++ [("" : Str)]) := sortW_mem.mpr (by simp)
  have hp := sortW_pw (ws ++ [("" : Str)])
  cases h : sortW (ws ++ [("" : Str)]) with
  | nil => rw [h] at hm; cases hm
  | cons a r =>
    rw [h] at hm hp
    have ha : a = "" := by
      rcases List.mem_cons.mp hm with e | e
      · exact e.symm
      · have q := (List.pairwise_cons.mp hp).1 _ e
        rw [leW_lt, lt_pair] at q
        by_cases hl : (("" : Str).length : Int) = a.length
        · rw [if_pos hl] at q
          by_cases e2 : ("" : Str) = a
          · exact e2.symm
          · have h0 : a.cps.toList.length = 0 := by
              rw [cut_len]
              have : ("" : Str).length = 0 := rfl
              omega
            exact PySem.W.str_of_cps (List.length_eq_zero_iff.mp h0)
        · rw [if_neg hl] at q
          have h0 : ("" : Str).length = 0 := rfl
          have : ¬ ((("" : Str).length : Int) < a.length) := by simpa using q
          omega
    subst ha
    have gen : ∀ r : List Str, r.foldl stepF [("" : Str)] = [("" : Str)] := by
      intro r
      induction r with
      | nil => rfl
      | cons w r ih =>
        rw [List.foldl_cons]
        have e : stepF [("" : Str)] w = [("" : Str)] := if_pos (by simp [strewn_nil])
        rw [e, ih]
    exact gen r
theorem due_cov (ws : List Str) (w : Str) (h : w ∈ ws) : ∃ o ∈ dueW ws, strewnB o w = true := by
  have := least_cov (sortW (firstsG ws)) w (sortW_mem.mpr (firstsG_mem.mpr h))
  obtain ⟨o, ho, e⟩ := List.any_eq_true.mp this
  exact ⟨o, ho, e⟩
theorem due_mem {ws : List Str} {z : Str} (h : z ∈ dueW ws) : z ∈ ws := firstsG_mem.mp (sortW_mem.mp (leastF_mem _ h))
theorem due_len (ws : List Str) : (dueW ws).length ≤ ws.length := Nat.le_trans (leastF_len _) (by rw [sortW_len]; exact firstsG_len ws)
end SWL
set_option Elab.async false
set_option linter.all false
set_option maxRecDepth 100000
set_option maxHeartbeats 8000000
namespace SWL
open PySem PySem.Spec PyProof.Rows L2 LamX
abbrev sCaught : Stmt := top18 27
abbrev sLaw : Stmt := top18 32
abbrev N18 : List Str := ["script", "turn", "words", "due", "word", "odd", "letters", "some", "state", "lap", "at", "one"]
theorem scLaw : FnScope N18 ["script"] (defScope sLaw) := ⟨rfl, rfl, rfl, by decide +kernel, rfl, by decide +kernel, by decide +kernel⟩
theorem scCaught : FnScope ["action", "found", "error"] ["action"] (defScope sCaught) := ⟨rfl, rfl, rfl, by decide +kernel, rfl, by decide +kernel, by decide +kernel⟩
abbrev lapScope : Scope := { kind := .function, names := [(".0", .local), ("lap", .local), ("range", .globalImplicit), ("_law_draw", .globalImplicit), ("letters", .cell), ("state", .cell)], isGenerator := false, isCoroutine := false, more := [] }
def rListStr : List V → Hp → VK → Prop := fun xs H Q => ∃ z, xs = [.str z] ∧ z.length ≤ sizeLine ∧ ∀ p, H p = none → Q (.ref p) (upd H p (.lst (signsV z)))
/-- ''.join([_law_pick(state, list(letters)) for at in range(_law_draw(state, 7))]) -/
def tSigns : TE := tLc (iRng1 (tCons (tCall spDraw [] E0 (tCons (tVar 8) (tCons (tC (.int 7)) tNil))) tNil)) (gName 10) tYes (tCall spPick [] E0 (tCons (tVar 8) (tCons (tCB rListStr (tCons (tVar 6) tNil)) tNil))) [10]
def tWord (K : PySem.W.Frag) : TE := tM1 (fun x xs H Q => ∃ a p, ∃ ys : List Str, x = .str a ∧ xs = [.ref p] ∧ (SqL K H p (ys.map V.str) ∨ SqT K H p (ys.map V.str)) ∧ (ys.map (·.length)).sum + ys.length * a.length ≤ 16777216 ∧ Q (.str (Txt.join a ys)) H) (tC (.str "")) tSigns
/-- what the law calls -/
structure Callees (P : Program) (w : World) (K : PySem.W.Frag) (mg : Str → Option Value) (base : Heap) (CN CW CS : Addr) : Prop where
  begun : ∃ f fd, Def mg K "_law_begun" f fd ["script"] ∧ FnOk P w K mg base CX0 1 f fd ["script"] (spBegun K)
  moL : ∃ f fd, Def mg K "_law_mo_letters" f fd ["state"] ∧ FnOk P w K mg base CX0 4 f fd ["state"] spMoL
  draw : ∃ f fd, Def mg K "_law_draw" f fd ["state", "room"] ∧ FnOk P w K mg base CX0 2 f fd ["state", "room"] spDraw
  pick : ∃ f fd, Def mg K "_law_pick" f fd ["state", "some"] ∧ FnOk P w K mg base CX0 3 f fd ["state", "some"] spPick
  moLeast : ∃ f fd, Def mg K "_law_mo_least" f fd ["words"] ∧ FnOk P w K mg base CX0 3 f fd ["words"] (spMoLeast K)
  is : ∃ f fd, Def mg K "_law_is" f fd ["found", "due"] ∧ FnG P w K mg base 5 f fd ["found", "due"] (spIs K 3)
  odd : ∃ f fd, Def mg K "_law_mo_odd_word" f fd ["state", "letters"] ∧ FnOk P w K mg base CX0 4 f fd ["state", "letters"] spOdd
  least : ∃ f fd, Def mg K "least_of" f fd ["letters", "words"] ∧ KBinds K fd ["letters", "words"] ["words", "letters"] (fun us ws => us ++ ws.reverse) (fun us ws => us ++ ws.reverse) ∧ FnOk P w K mg base (L2.CX P w) 5 f fd ["letters", "words"] (spLeast K CN CW)
  strewn : ∃ f fd, Def mg K "strewn" f fd ["letters", "word", "other"] ∧ FnOk P w K mg base CX0 4 f fd ["letters", "word", "other"] spStrewn
/-- _law_caught, as it stands -/
structure CaughtK (K : PySem.W.Frag) (mg : Str → Option Value) (fC : Addr) : Prop where
  g : mg "_law_caught" = some (.ref fC)
  k : PySem.W.keepIn K (.ref fC) = true
  ex : ∃ (oc kV doc pm cdv ct : Value) (an od : Option Addr) (osl : Array (Option Value)), K.lookup fC = some ⟨oc, od, .func (PySem.W.fnOf "_law_caught" "_law_caught" (defArgs sCaught) (defBody sCaught) (defScope sCaught) .none kV doc pm an cdv ct), osl⟩ ∧ PySem.W.codeIn K cdv "_law_caught" = true ∧
    L2.Binds K (PySem.W.fnOf "_law_caught" "_law_caught" (defArgs sCaught) (defBody sCaught) (defScope sCaught) .none kV doc pm an cdv ct) ["action"] []
section
variable {P : Program} {w : World} {K : PySem.W.Frag} {mg : Str → Option Value} {base : Heap}
def qLam : Str := (envOfC "law" (defScope sLaw) 0 0 .none).qual ++ "<lambda>"
/-- the pieces of the law's turn, statement by statement (the loop's body) -/
theorem law_walk {CN CW CS fC f c Pt : Addr} {A : Around} {outer : List Env} {s : Shared} {H : Hp} {E : XK} (B : Blt mg) (C : Callees P w K mg base CN CW CS) (CK : CaughtK K mg fC) (gA : A.guards = some []) (TB : TabB base mg c Pt)
    (mgW : mg "NoWord" = some (.ref CW)) (mgN : mg "NoLetters" = some (.ref CN)) (mgS : mg "SwingError" = some (.ref CS)) (hr : Room 7 (A.deeper (envOfC "law" (defScope sLaw) s.heap.objs.size f (.ref c)))) :
    ∃ t, PSs (cxOf CX0 P w K mg base N18 "law" (defScope sLaw) f (.ref c) A outer s H E).nox (defBody sLaw) t := by
  obtain ⟨f1, fd1, D1, G1⟩ := C.begun
  obtain ⟨f2, fd2, D2, G2⟩ := C.moL
  obtain ⟨f3, fd3, D3, G3⟩ := C.draw
  obtain ⟨f4, fd4, D4, G4⟩ := C.pick
  obtain ⟨f5, fd5, D5, G5⟩ := C.moLeast
  obtain ⟨f6, fd6, D6, G6⟩ := C.is
  obtain ⟨f7, fd7, D7, G7⟩ := C.odd
  obtain ⟨f8, fd8, D8, KB8, G8⟩ := C.least
  obtain ⟨f9, fd9, D9, G9⟩ := C.strewn
  obtain ⟨oc, kV, doc, pm, cdv, ct, an, od, osl, lkC, cdC, bC⟩ := CK.ex
  have u64 : (A.deeper (envOfC "law" (defScope sLaw) s.heap.objs.size f (.ref c))).units + 64 < cLine := by have := hr.un; omega
  have gX : (A.deeper (envOfC "law" (defScope sLaw) s.heap.objs.size f (.ref c))).guards = some [] := gA
  exact ⟨_, (pss_cons (ps_set (i := 8) scLaw.nd rfl (Or.inr rfl) (pe_call G1 (hr.mono (by decide)) (by rfl) D1.g D1.k D1.b .nil pass0 (pa_cons (pv 0) pa_nil)))
  (pss_cons (ps_for PassesOwn.never rfl (pi_range1 (by rfl) B.range (pa_cons (pe_op op_add pe_int (pe_callB (call_min2 rfl) (by rfl) B.min (by decide +kernel) (pa_cons (pe_callB call_len_seq (by rfl) B.len PySem.boot_len (pa_cons (pv 0) pa_nil)) (pa_cons pe_int pa_nil)))) pa_nil)) (pg_name (i := 1) scLaw.nd rfl (Or.inl rfl)) (pss_cons (ps_set (i := 6) scLaw.nd rfl (Or.inr rfl) (pe_call G2 (hr.mono (by decide)) (by rfl) D2.g D2.k D2.b .nil pass0 (pa_cons (pv 8) pa_nil)))
  (pss_cons (ps_setLc (i := 2) (own := [("lap", 9)]) (g := gName 9) (tt := tYes) (te := tWord K) rfl scLaw.nd rfl rfl (sw_true rfl rfl rfl (by decide +kernel)) (pi_range1 (by rfl) B.range (pa_cons (pe_call G3 (hr.mono (by decide)) (by rfl) D3.g D3.k D3.b .nil pass0 (pa_cons (pv 8) (pa_cons pe_int pa_nil))) pa_nil)) (blkOk_by (N := N18) (sc := defScope sLaw) (by decide +kernel)) (fun _ _ _ _ _ => (pg_name (i := 9) scLaw.nd rfl (Or.inl rfl))) (fun _ _ _ _ _ => pts_nil) (fun _ _ _ _ _ => pe_join pe_str (pe_lc (own := [("at", 10)]) (g := gName 10) (tt := tYes) rfl scLaw.nd (pi_range1 (by rfl) B.range (pa_cons (pe_call G3 (hr.mono (by decide)) (by rfl) D3.g D3.k D3.b .nil pass0 (pa_cons (pv 8) (pa_cons pe_int pa_nil))) pa_nil)) (blkOk_by (N := N18) (sc := lapScope) (by decide +kernel)) (fun _ _ _ _ _ => (pg_name (i := 10) scLaw.nd rfl (Or.inl rfl))) (fun _ _ _ _ _ => pts_nil) (fun _ _ _ _ _ => (pe_call G4 (hr.mono (by decide)) (by rfl) D4.g D4.k D4.b .nil pass0 (pa_cons (pv 8) (pa_cons (pe_callTy (cr_listStr rfl) (by rfl) B.list (by decide +kernel) (pa_cons (pv 6) pa_nil)) pa_nil)))))))
  (pss_cons (ps_if (pw_and (pt_cmpR (op_neD u64) (pv 2) (pe_lst pa_nil) (nomark _)) (pw_and1 (pt_cmpR op_eq (pe_call G3 (hr.mono (by decide)) (by rfl) D3.g D3.k D3.b .nil pass0 (pa_cons (pv 8) (pa_cons pe_int pa_nil))) pe_int (nomark _)))).pt (pss_one (ps_expr (pe_bm PySem.F.plainAttrs_list PySem.F.slot_list_append PySem.F.type_list_append mt_append (pv 2) (pa_cons (pe_op op_add_str (pe_ix ix_list (pv 2) pe_int (fun _ _ => rfl)) (pv 6)) pa_nil)))) pss_nil)
  (pss_cons (ps_set (i := 3) scLaw.nd rfl (Or.inl rfl) (pe_call G5 (hr.mono (by decide)) (by rfl) D5.g D5.k D5.b .nil pass0 (pa_cons (pv 2) pa_nil)))
  (pss_cons (ps_if (pw_or (pt_not (pt_truth (pe_callG gX G6 (hr.mono (by decide)) (by rfl) D6.g D6.k D6.b (pa_cons (pe_call G8 (hr.mono (by decide)) (by rfl) D8.g D8.k D8.b .nil (passE0 rfl rfl) (pa_cons (pv 6) (pa_cons (pv 2) pa_nil))) (pa_cons (pv 3) pa_nil))) (by intro _; rfl))) (pw_or1 (pt_not (pt_truth (pe_callG gX G6 (hr.mono (by decide)) (by rfl) D6.g D6.k D6.b (pa_cons (pe_kwCall G8 (hr.mono (by decide)) (by rfl) D8.g D8.k KB8 (passE0 rfl rfl) (pk_cons (pe_callTy call_tuple_of (by rfl) B.tuple (by decide +kernel) (pa_cons (pv 2) pa_nil)) (pk_cons (pv 6) pk_nil))) (pa_cons (pv 3) pa_nil))) (by intro _; rfl))))).pt (pss_one (ps_ret pe_bl)) pss_nil)
  (pss_cons (ps_if (pw_or (pt_not (pt_truth (pe_callG gX G6 (hr.mono (by decide)) (by rfl) D6.g D6.k D6.b (pa_cons (pe_call G8 (hr.mono (by decide)) (by rfl) D8.g D8.k D8.b .nil (passE0 rfl rfl) (pa_cons (pv 6) (pa_cons (pe_op op_cat (pv 3) (pe_revL (pv 3))) pa_nil))) (pa_cons (pv 3) pa_nil))) (by intro _; rfl))) (pw_or1 (pt_not (pt_truth (pe_callG gX G6 (hr.mono (by decide)) (by rfl) D6.g D6.k D6.b (pa_cons (pe_call G8 (hr.mono (by decide)) (by rfl) D8.g D8.k D8.b .nil (passE0 rfl rfl) (pa_cons (pv 6) (pa_cons (pe_op op_cat (pv 2) (pe_lst (pa_cons pe_str pa_nil))) pa_nil))) (pa_cons (pe_lst (pa_cons pe_str pa_nil)) pa_nil))) (by intro _; rfl))))).pt (pss_one (ps_ret pe_bl)) pss_nil)
  (pss_cons (ps_for PassesOwn.never rfl (pi_list (pv 2)) (pg_name (i := 4) scLaw.nd rfl (Or.inr rfl)) (pss_one (ps_if (pt_cmpR (op_eqD u64) (pe_lc (own := [("one", 11)]) (g := gName 11) (tt := tTest (tOp (fun x y H Q => ∃ a b, x = .bl a ∧ y = .bl b ∧ Q (.bl (decide (a = b))) H) (tCall spStrewn [] E0 (tCons (tVar 6) (tCons (tVar 11) (tCons (tVar 4) tNil)))) (tC (.bl true)))) rfl scLaw.nd (pi_list (pv 3)) (blkOk_by (N := N18) (sc := defScope sLaw) (by decide +kernel)) (fun _ _ _ _ _ => (pg_name (i := 11) scLaw.nd rfl (Or.inl rfl))) (fun _ _ _ _ _ => pts_one (pt_cmpR op_is_bl (pe_call G9 (hr.mono (by decide)) (by rfl) D9.g D9.k D9.b .nil pass0 (pa_cons (pv 6) (pa_cons (pv 11) (pa_cons (pv 4) pa_nil)))) pe_bl (nomark _))) (fun _ _ _ _ _ => pv 11)) (pe_lst pa_nil) (nomark _)) (pss_one (ps_ret pe_bl)) pss_nil)))
  (pss_cons (ps_set (i := 5) scLaw.nd rfl (Or.inl rfl) (pe_call G7 (hr.mono (by decide)) (by rfl) D7.g D7.k D7.b .nil pass0 (pa_cons (pv 8) (pa_cons (pv 6) pa_nil))))
  (pss_cons (ps_for PassesOwn.never rfl (pi_list (pe_lst (pa_cons (pe_op op_cat (pv 2) (pe_lst (pa_cons (pv 5) pa_nil))) (pa_cons (pe_ifExp (pt_not (pt_truth (pe_callB call_isiT (by rfl) B.isi (by decide +kernel) (pa_cons (pv 5) (pa_cons (pe_tup (pa_cons (pe_bltn (u := .type "list") (v := .ty "list") (by rfl) B.list (by decide +kernel) rfl) (pa_cons (pe_bltn (u := .type "tuple") (v := .ty "tuple") (by rfl) B.tuple (by decide +kernel) rfl) pa_nil))) pa_nil))) (by intro _; rfl))) (pv 5) pe_non) (pa_cons (pe_disp (pps_cons pe_str pe_int pps_nil) (by rfl) (by rfl) (by simp) (by decide)) pa_nil))))) (pg_name (i := 7) scLaw.nd rfl (Or.inr rfl)) (pss_one (ps_if (pt_not (pt_truth (pe_callB call_isKept (by rfl) B.isi (by decide +kernel) (pa_cons (pe_lamcall (k := 5) (T := [(Pt, qLam)]) (TT := TCaught K CS) (Ng := ["action", "found", "error"]) (t := fun E => tCall (spLeast K CN CW) [] E (tCons (tVar 6) (tCons (tVar 7) tNil))) (by rfl) CK.g CK.k lkC cdC bC scCaught rfl (Or.inl rfl) (caught_gives rfl mgS (by decide) rfl rfl (by decide +kernel) (by decide) (by decide) (by decide) (by decide)) TB rfl List.mem_cons_self (fun p hp e => by cases List.mem_singleton.mp hp; rfl) hr (lamS_by (sc := defScope sLaw) (by decide +kernel)) rfl (fun _ _ _ _ _ => rfl) (fun A outer s H E f c' hr2 => pe_call G8 (hr2.mono (by decide)) (by rfl) D8.g D8.k D8.b .nil (passes_call (takes_of rfl rfl rfl rfl) fun _ _ _ _ h => h) (pa_cons (pv 6) (pa_cons (pv 7) pa_nil)))) (pa_cons (pe_glob (v := .ref CW) (by rfl) mgW rfl) pa_nil))) (by intro _; rfl))) (pss_one (ps_ret pe_bl)) pss_nil)))
  (pss_one (ps_if (pt_not (pt_truth (pe_callB call_isKept (by rfl) B.isi (by decide +kernel) (pa_cons (pe_lamcall (k := 5) (T := [(Pt, qLam)]) (TT := TCaught K CS) (Ng := ["action", "found", "error"]) (t := fun E => tCall (spLeast K CN CW) [] E (tCons (tCall spPick [] E0 (tCons (tVar 8) (tCons (tLst (tCons (tC (.str "")) (tCons (tC (.str "ba")) (tCons (tC (.str "aa")) (tCons (tC .non) (tCons (tC (.int 5)) (tCons (tC (.str "abcde")) tNil))))))) tNil))) (tCons (tC .non) tNil))) (by rfl) CK.g CK.k lkC cdC bC scCaught rfl (Or.inl rfl) (caught_gives rfl mgS (by decide) rfl rfl (by decide +kernel) (by decide) (by decide) (by decide) (by decide)) TB rfl List.mem_cons_self (fun p hp e => by cases List.mem_singleton.mp hp; rfl) hr (lamS_by (sc := defScope sLaw) (by decide +kernel)) rfl (fun _ _ _ _ _ => rfl) (fun A outer s H E f c' hr2 => pe_call G8 (hr2.mono (by decide)) (by rfl) D8.g D8.k D8.b .nil (passes_call (takes_of rfl rfl rfl rfl) fun _ _ _ _ h => h) (pa_cons (pe_call G4 (hr2.mono (by decide)) (by rfl) D4.g D4.k D4.b .nil pass0 (pa_cons (pv 8) (pa_cons (pe_lst (pa_cons pe_str (pa_cons pe_str (pa_cons pe_str (pa_cons pe_non (pa_cons pe_int (pa_cons pe_str pa_nil))))))) pa_nil))) (pa_cons pe_non pa_nil)))) (pa_cons (pe_glob (v := .ref CN) (by rfl) mgN rfl) pa_nil))) (by intro _; rfl))) (pss_one (ps_ret pe_bl)) pss_nil))))))))))))
  (pss_one (ps_ret pe_bl))))⟩
end
end SWL
set_option Elab.async false
set_option linter.all false
set_option maxRecDepth 100000
set_option maxHeartbeats 4000000
namespace SWL
open PySem PySem.Spec PyProof.Rows L2 LamX
/-! the law's turn, piece by piece -/
/-- the draws and the table of the lambdas' code -/
structure LS (H : Hp) (a g c : Addr) (cs : List Int) (n : Nat) (Pt : Addr) : Prop where
  sat : SAt H a g c cs n
  tab : Tabs [(Pt, qLam)] H
theorem LS.grows {H H' : Hp} {a g c Pt : Addr} {cs : List Int} {n : Nat} (s : LS H a g c cs n Pt) (x : Grows H H') : LS H' a g c cs n Pt := ⟨s.sat.grows x, s.tab.ext x⟩
theorem LS.mono {H : Hp} {a g c Pt : Addr} {cs : List Int} {n m : Nat} (s : LS H a g c cs n Pt) (h : n ≤ m) : LS H a g c cs m Pt := ⟨s.sat.mono h, s.tab⟩
theorem LS.but {H H' : Hp} {a g c Pt : Addr} {cs : List Int} {n m : Nat} (s : LS H a g c cs n Pt) (x : But H H' a g) (s' : SAt H' a g c cs m) : LS H' a g c cs m Pt := by
  refine ⟨s', fun p hp => ?_⟩
  obtain ⟨gs, r, t, h1, h2, _⟩ := s.sat.ex
  obtain ⟨ps, e1, e2, e3⟩ := s.tab p hp
  refine ⟨ps, x _ _ e1 (ne_of e1 h1 (by intro z; cases z)) (ne_of e1 h2 (by intro z; cases z)), e2, fun pos cv hc => ?_⟩
  obtain ⟨d, f1, f2⟩ := e3 pos cv hc
  exact ⟨d, f1, x _ _ f2 (ne_of f2 h1 (by unfold CodeO; intro z; cases z)) (ne_of f2 h2 (by unfold CodeO; intro z; cases z))⟩
theorem LS.ext {H H' : Hp} {a g c Pt : Addr} {cs : List Int} {n : Nat} (s : LS H a g c cs n Pt) (x : ExtN H H') (t : Tabs [(Pt, qLam)] H') : LS H' a g c cs n Pt := by
  obtain ⟨gs, r, t', h1, h2, h3, h4⟩ := s.sat.ex
  exact ⟨⟨gs, r, t', x _ _ h1 (by intro ps z; cases z), x _ _ h2 (by intro ps z; cases z), x _ _ h3 (by intro ps z; cases z), h4⟩, t⟩
theorem LS.offA {H : Hp} {a g c Pt : Addr} {cs : List Int} {n : Nat} (s : LS H a g c cs n Pt) {l : Addr} {xs : List V} (h : H l = some (.lst xs)) : l ≠ a := by
  obtain ⟨gs, r, t, h1, _⟩ := s.sat.ex
  exact ne_of h h1 (by intro z; cases z)
theorem LS.offG {H : Hp} {a g c Pt : Addr} {cs : List Int} {n : Nat} (s : LS H a g c cs n Pt) {l : Addr} (h : H l = none) : l ≠ g := by
  obtain ⟨gs, r, t, h1, h2, _⟩ := s.sat.ex
  exact (ne_of_none h2 h).symm
theorem LS.offA' {H : Hp} {a g c Pt : Addr} {cs : List Int} {n : Nat} (s : LS H a g c cs n Pt) {l : Addr} (h : H l = none) : l ≠ a := by
  obtain ⟨gs, r, t, h1, h2, _⟩ := s.sat.ex
  exact (ne_of_none h1 h).symm
theorem LS.put {H : Hp} {a g c Pt D : Addr} {cs : List Int} {n : Nat} {xs : List V} (s : LS H a g c cs n Pt) (h : H D = some (.lst xs)) (dG : D ≠ g) (dC : D ≠ c) (ys : List V) : LS (upd H D (.lst ys)) a g c cs n Pt := by
  have dA := s.offA h
  obtain ⟨gs, r, t, h1, h2, h3, h4⟩ := s.sat.ex
  refine ⟨⟨gs, r, t, by rw [upd_ne dA.symm]; exact h1, by rw [upd_ne dG.symm]; exact h2, by rw [upd_ne dC.symm]; exact h3, h4⟩, fun p hp => ?_⟩
  obtain ⟨ps, e1, e2, e3⟩ := s.tab p hp
  refine ⟨ps, by rw [upd_ne (ne_of e1 h (by intro z; cases z))]; exact e1, e2, fun pos cv hc => ?_⟩
  obtain ⟨d, f1, f2⟩ := e3 pos cv hc
  exact ⟨d, f1, by rw [upd_ne (ne_of f2 h (by unfold CodeO; intro z; cases z))]; exact f2⟩
theorem LS.offC {H : Hp} {a g c Pt : Addr} {cs : List Int} {n : Nat} (s : LS H a g c cs n Pt) {l : Addr} (h : H l = none) : l ≠ c := by
  obtain ⟨gs, r, t, h1, h2, h3, _⟩ := s.sat.ex
  exact (ne_of_none h3 h).symm
/-- a word of the letters -/
def Wd (m : Nat) (ls z : Str) : Prop := (∀ c ∈ z.cps.toList, c ∈ ls.cps.toList) ∧ z.length ≤ m
theorem Wd.mono {m k : Nat} {ls z : Str} (h : Wd m ls z) (hk : m ≤ k) : Wd k ls z := ⟨h.1, Nat.le_trans h.2 hk⟩
theorem joined (zs : List Nat) : (Txt.join "" (zs.map fun c => (⟨#[c]⟩ : Str))).cps.toList = zs := by
  rw [TL.join_eq]
  have e := TL.tl_join "" (zs.map fun c => (⟨#[c]⟩ : Str))
  have e2 : ∀ l : List Nat, TL.joinL [] ((l.map fun c => (⟨#[c]⟩ : Str)).map TL.tl) = l := by
    intro l
    induction l with
    | nil => rfl
    | cons c l ih =>
      cases l with
      | nil => rfl
      | cons d l =>
        show [c] ++ ([] ++ TL.joinL [] (((d :: l).map fun c => (⟨#[c]⟩ : Str)).map TL.tl)) = _
        rw [ih]
        rfl
  exact e.trans (e2 zs)
section
variable {K : PySem.W.Frag} {a g c Pt : Addr} {cs : List Int}
/-- one word is drawn -/
theorem go_word {σ : L2.St} {H : Hp} {Q : VK} {n : Nat} {ls : Str} (L : LS H a g c cs n Pt) (hn : n + 10 ≤ 1000000) (h8 : σ[8]? = some (some (.ref a))) (h6 : σ[6]? = some (some (.str ls))) (hls : ls.length ≤ 1000) (hne : 0 < ls.length)
    (q : ∀ H' z, LS H' a g c cs (n + 8) Pt → But H H' a g → Wd 10 ls z → Q (.str z) H') : tWord K σ H Q := by
  have w8 : (wipe σ [10])[8]? = some (some (.ref a)) := (wipe_out (vs := [10]) (by decide)).trans h8
  have w6 : (wipe σ [10])[6]? = some (some (.str ls)) := (wipe_out (vs := [10]) (by decide)).trans h6
  refine ⟨⟨_, rfl⟩, _, h8, a, g, c, cs, n, 7, rfl, L.sat, by omega, by decide, by decide, fun H1 k hk0 hk s1 b1 => ⟨k, rfl, by omega, by omega, fun D nD => ?_⟩⟩
  have L1 := L.but b1 s1
  have LD := L1.grows (Grows.new (o := .lst []) nD)
  refine lc_it walk_range (fun j H' => LS H' a g c cs (n + 1 + j) Pt ∧ But H1 H' a g ∧ ∃ zs : List Nat, zs.length = j ∧ (∀ x ∈ zs, x ∈ ls.cps.toList) ∧ H' D = some (.lst (zs.map fun x => V.str ⟨#[x]⟩)))
    ⟨LD, But.of (Grows.new nD), [], rfl, (fun x hx => by cases hx), upd_same⟩ (fun _ _ _ _ => trivial) ?_ ?_
  · rintro j x H2 H3 hj ⟨L2, b2, zs, hl, hzs, hD⟩ ⟨rfl, rfl⟩
    have hjk : j < 7 := by omega
    have dA := L2.offA hD
    have dG : D ≠ g := L1.offG nD
    have s8 : ((wipe σ [10]).set 10 (some (V.int (0 + (j : Int)))))[8]? = some (some (.ref a)) := by rw [List.getElem?_set_ne (by decide)]; exact w8
    have s6 : ((wipe σ [10]).set 10 (some (V.int (0 + (j : Int)))))[6]? = some (some (.str ls)) := by rw [List.getElem?_set_ne (by decide)]; exact w6
    refine ⟨by show (((σ.set 10 none).set 10 _).set 10 none) = σ.set 10 none; simp, ?_⟩
    refine ⟨_, s8, _, s6, ls, rfl, (by have : sizeLine = 16777216 := sizeLine_eq; omega), fun p np => ?_⟩
    have g3 : Grows H3 (upd H3 p (.lst (signsV ls))) := Grows.new np
    refine ⟨a, g, c, p, cs, n + 1 + j, signsV ls, rfl, (L2.grows g3).sat, by omega, upd_same, L2.offG np, (fun z => by rw [← List.length_eq_zero_iff, signs_len] at z; omega), by rw [signs_len]; omega, fun H4 y hy s4 b4 => ?_⟩
    obtain ⟨x, hx, rfl⟩ := signs_mem hy
    have hD4 : H4 D = some (.lst (zs.map fun x => V.str ⟨#[x]⟩)) := b4 D _ (g3 _ _ hD) dA dG
    have bb : But H1 (upd H4 D (.lst (zs.map (fun x => V.str ⟨#[x]⟩) ++ [.str ⟨#[x]⟩]))) a g := fun b o e n1 n2 => by
      rw [upd_ne (ne_of_none e nD)]
      exact b4 b o (g3 _ _ (b2 b o e n1 n2)) n1 n2
    have L4 := (L2.grows g3).but b4 s4
    refine ⟨_, hD4, by rw [List.length_map, hl]; have : sizeLine = 16777216 := sizeLine_eq; omega, ?_, bb, zs ++ [x], by rw [List.length_append, hl]; rfl, fun y hy => ?_, ?_⟩
    · exact L4.put hD4 dG (L1.offC nD) _
    · rcases List.mem_append.mp hy with h | h
      · exact hzs y h
      · rw [List.mem_singleton.mp h]
        exact hx
    · rw [upd_same, List.map_append]
      rfl
  · rintro H2 ⟨L2, b2, zs, hl, hzs, hD⟩
    have hk7 : k.toNat ≤ 6 := by omega
    refine ⟨"", D, zs.map (fun x => (⟨#[x]⟩ : Str)), rfl, rfl, .inl (.inl (.inl (hD.trans ?_))), ?_, ?_⟩
    · rw [List.map_map]
      rfl
    · have e : ((zs.map fun x => (⟨#[x]⟩ : Str)).map (·.length)).sum ≤ zs.length := by
        clear hl hzs hD
        induction zs with
        | nil => exact Nat.le_refl _
        | cons z zs ih =>
          simp only [List.map_cons, List.sum_cons, List.length_cons]
          have : (⟨#[z]⟩ : Str).length = 1 := rfl
          omega
      have e2 : ("" : Str).length = 0 := rfl
      rw [e2, Nat.mul_zero]
      omega
    · refine q H2 _ (L2.mono (by omega)) (b1.trans b2) ⟨fun x hx => ?_, ?_⟩
      · rw [joined] at hx
        exact hzs x hx
      · rw [← cut_len, joined]
        omega
/-- [.. for lap in range(_law_draw(state, 9))] -/
def tWords (K : PySem.W.Frag) : TE := tLc (iRng1 (tCons (tCall spDraw [] E0 (tCons (tVar 8) (tCons (tC (.int 9)) tNil))) tNil)) (gName 9) tYes (tWord K) [9]
theorem go_words {σ : L2.St} {H : Hp} {Q : VK} {n : Nat} {ls : Str} (L : LS H a g c cs n Pt) (hn : n + 200 ≤ 1000000) (h8 : σ[8]? = some (some (.ref a))) (h6 : σ[6]? = some (some (.str ls))) (hls : ls.length ≤ 1000) (hne : 0 < ls.length)
    (q : ∀ (H' : Hp) (D : Addr) (ws : List Str), LS H' a g c cs (n + 100) Pt → ws.length ≤ 8 → (∀ z ∈ ws, Wd 10 ls z) → H' D = some (.lst (ws.map V.str)) → D ≠ g → D ≠ c → Q (.ref D) H') : tWords K σ H Q := by
  have w8 : (wipe σ [9])[8]? = some (some (.ref a)) := (wipe_out (vs := [9]) (by decide)).trans h8
  have w6 : (wipe σ [9])[6]? = some (some (.str ls)) := (wipe_out (vs := [9]) (by decide)).trans h6
  refine ⟨_, h8, a, g, c, cs, n, 9, rfl, L.sat, by omega, by decide, by decide, fun H1 k hk0 hk s1 b1 => ⟨k, rfl, by omega, by omega, fun D nD => ?_⟩⟩
  have L1 := L.but b1 s1
  have LD := L1.grows (Grows.new (o := .lst []) nD)
  have dG := L1.offG nD
  have dC := L1.offC nD
  refine lc_it walk_range (fun j H' => LS H' a g c cs (n + 1 + 10 * j) Pt ∧ ∃ ws : List Str, ws.length = j ∧ (∀ z ∈ ws, Wd 10 ls z) ∧ H' D = some (.lst (ws.map V.str)))
    ⟨LD, [], rfl, (fun x hx => by cases hx), upd_same⟩ (fun _ _ _ _ => trivial) ?_ ?_
  · rintro j x H2 H3 hj ⟨L2, ws, hl, hws, hD⟩ ⟨rfl, rfl⟩
    have hjk : j < 9 := by omega
    have dA := L2.offA hD
    refine ⟨by show (((σ.set 9 none).set 9 _).set 9 none) = σ.set 9 none; simp, ?_⟩
    have s8 : ((wipe σ [9]).set 9 (some (V.int (0 + (j : Int)))))[8]? = some (some (.ref a)) := by rw [List.getElem?_set_ne (by decide)]; exact w8
    have s6 : ((wipe σ [9]).set 9 (some (V.int (0 + (j : Int)))))[6]? = some (some (.str ls)) := by rw [List.getElem?_set_ne (by decide)]; exact w6
    simp only [tYes, if_true]
    refine go_word L2 (by omega) s8 s6 hls hne fun H4 z L4 b4 hz => ?_
    have hD4 := b4 D _ hD dA dG
    refine ⟨_, hD4, by rw [List.length_map, hl]; have : sizeLine = 16777216 := sizeLine_eq; omega, (L4.put hD4 dG dC _).mono (by omega), ws ++ [z], by rw [List.length_append, hl]; rfl, fun y hy => ?_, ?_⟩
    · rcases List.mem_append.mp hy with h | h
      · exact hws y h
      · rw [List.mem_singleton.mp h]
        exact hz
    · rw [upd_same, List.map_append]
      rfl
  · rintro H2 ⟨L2, ws, hl, hws, hD⟩
    exact q H2 D ws (L2.mono (by omega)) (by omega) hws hD dG dC
/-- if words != [] and _law_draw(state, 2) == 0: words.append(words[0] + letters) -/
def tAppend (K : PySem.W.Frag) : TS := tIfS (tAnd (tTest (tOp (rNeD K) (tVar 2) (tLst tNil))) (tTest (tOp rEq (tCall spDraw [] E0 (tCons (tVar 8) (tCons (tC (.int 2)) tNil))) (tC (.int 0)))))
  (tDrop (tBM K "list" rAppend (tVar 2) (tCons (tOp (fun x y H Q => ∃ i j, x = .str i ∧ y = .str j ∧ i.length + j.length ≤ sizeLine ∧ Q (.str (i ++ j)) H) (tOp (rIxL K) (tVar 2) (tC (.int 0))) (tVar 6)) tNil))) tNext
theorem ok_small {z ls : Str} (hls : ∀ c ∈ ls.cps.toList, c < 128) (hz : ∀ c ∈ z.cps.toList, c ∈ ls.cps.toList) : PyData.strOk z = true := by
  unfold PyData.strOk
  rw [← Array.all_toList, List.all_eq_true]
  intro c hc
  have := hls c (hz c hc)
  exact decide_eq_true (by omega)
theorem go_append {σ : L2.St} {H : Hp} {En : Ends} {n : Nat} {ls : Str} {D : Addr} {ws : List Str} (L : LS H a g c cs n Pt) (hn : n + 200 ≤ 1000000) (h8 : σ[8]? = some (some (.ref a))) (h6 : σ[6]? = some (some (.str ls))) (h2 : σ[2]? = some (some (.ref D))) (hls : ls.length ≤ 10)
    (hsm : ∀ c ∈ ls.cps.toList, c < 128) (hl : ws.length ≤ 8) (hws : ∀ z ∈ ws, Wd 10 ls z) (hD : H D = some (.lst (ws.map V.str))) (dG : D ≠ g) (dC : D ≠ c)
    (q : ∀ (H' : Hp) (ws' : List Str), LS H' a g c cs (n + 1) Pt → ws'.length ≤ 9 → (∀ z ∈ ws', Wd 20 ls z) → H' D = some (.lst (ws'.map V.str)) → En.nx σ H') : tAppend K En σ H := by
  have sz : sizeLine = 16777216 := sizeLine_eq
  refine ⟨_, h2, by show 0 ≤ sizeLine; decide, fun p np => ?_⟩
  have gp : Grows H (upd H p (.lst [])) := Grows.new np
  have kp : upd H p (.lst []) p = some (.lst []) := upd_same
  generalize upd H p (.lst []) = H1 at gp kp ⊢
  have L1 := L.grows gp
  have hD1 := gp _ _ hD
  have dA := L.offA hD
  refine ⟨dWords ws, .list [], .lst (.inl (.inl hD1)) dp_strs, .lst (.inl (.inl kp)) .nil, shaped_strs fun z hz => ok_small hsm (hws z hz).1, rfl, _, rfl, ?_⟩
  rw [eqv_strs_nil]
  cases ws with
  | nil =>
    refine if_neg_of (by decide) ?_
    exact if_neg_of (by decide) (q H1 [] (L1.mono (by omega)) (by decide) (fun z hz => by cases hz) hD1)
  | cons w ws =>
    refine if_pos_of (by rw [decide_eq_false (by simp)]; decide) ?_
    refine ⟨_, h8, a, g, c, cs, n, 2, rfl, L1.sat, by omega, by decide, by decide, fun H2 k hk0 hk s2 b2 => ⟨rfl, _, rfl, ?_⟩⟩
    have L2 := L1.but b2 s2
    have hD2 := b2 D _ hD1 dA dG
    by_cases hk2 : k = 0
    · refine if_pos_of (decide_eq_true (congrArg V.int hk2)) ?_
      have hw := hws w List.mem_cons_self
      refine ⟨_, h2, Or.inl ⟨rfl, _, .inl (.inl hD2)⟩, _, h2, D, _, 0, .str w, rfl, rfl, .inl (.inl hD2), atI_nat (j := 0) rfl, _, h6, w, ls, rfl, rfl, (by have := hw.2; omega), D, _, _, rfl, rfl, hD2, (by rw [List.length_map]; omega), ?_⟩
      refine q _ ((w :: ws) ++ [w ++ ls]) (L2.put hD2 dG dC _) (by rw [List.length_append, List.length_cons, List.length_singleton]; rw [List.length_cons] at hl; omega) (fun z hz => ?_) (by rw [upd_same, List.map_append]; rfl)
      rcases List.mem_append.mp hz with h | h
      · exact (hws z h).mono (by decide)
      · rw [List.mem_singleton.mp h]
        refine ⟨fun x hx => ?_, ?_⟩
        · have e : (w ++ ls).cps.toList = w.cps.toList ++ ls.cps.toList := by
            show (w.cps ++ ls.cps).toList = _
            simp
          rw [e] at hx
          rcases List.mem_append.mp hx with h | h
          · exact hw.1 x h
          · exact h
        · have e : (w ++ ls).length = w.length + ls.length := by
            show (w.cps ++ ls.cps).size = _
            rw [Array.size_append]
            rfl
          have := hw.2
          omega
    · refine if_neg_of (by rw [decide_eq_false (fun z => hk2 (V.int.inj z))]; decide) ?_
      exact q H2 (w :: ws) L2 (by omega) (fun z hz => (hws z hz).mono (by decide)) hD2
end
end SWL
set_option Elab.async false
set_option linter.all false
set_option maxRecDepth 100000
set_option maxHeartbeats 4000000
namespace SWL
open PySem PySem.Spec PyProof.Rows L2 LamX
/-! more pieces: what is caught, what is odd -/
def lotOk (ls : Str) : Bool := okLetters ls && decide (ls.length ≤ 3) && decide (0 < ls.length) && ls.cps.toList.all (fun c => decide (c < 128)) && !decide (113 ∈ ls.cps.toList) && !decide (65 ∈ ls.cps.toList) && !decide (32 ∈ ls.cps.toList)
theorem lots_ok : lotsL.all lotOk = true := by decide +kernel
structure Lot (ls : Str) : Prop where
  ok : okLetters ls = true
  len : ls.length ≤ 3
  pos : 0 < ls.length
  small : ∀ c ∈ ls.cps.toList, c < 128
  q : 113 ∉ ls.cps.toList
  A : 65 ∉ ls.cps.toList
  sp : 32 ∉ ls.cps.toList
theorem lot_of {ls : Str} (h : ls ∈ lotsL) : Lot ls := by
  have e := List.all_eq_true.mp lots_ok ls h
  unfold lotOk at e
  simp only [Bool.and_eq_true, decide_eq_true_eq, Bool.not_eq_true', decide_eq_false_iff_not, List.all_eq_true] at e
  obtain ⟨⟨⟨⟨⟨⟨e1, e2⟩, e3⟩, e4⟩, e5⟩, e6⟩, e7⟩ := e
  exact ⟨e1, e2, e3, e4, e5, e6, e7⟩
theorem bad_sign {ls z : Str} {c : Nat} (hc : c ∈ z.cps.toList) (hn : c ∉ ls.cps.toList) : okWord ls z 20000 = false := by
  unfold okWord
  have e : (z.cps.toList.all fun c => decide (c ∈ ls.cps.toList)) = false := by
    rw [Bool.eq_false_iff]
    intro h
    exact hn (of_decide_eq_true (List.all_eq_true.mp h c hc))
  rw [e, Bool.and_false]
theorem app_len (a b : Str) : (a ++ b).length = a.length + b.length := by
  show (a.cps ++ b.cps).size = _
  rw [Array.size_append]
  rfl
theorem app_cps (a b : Str) : (a ++ b).cps.toList = a.cps.toList ++ b.cps.toList := by
  show (a.cps ++ b.cps).toList = _
  simp
theorem odd_bad {K : PySem.W.Frag} {H : Hp} {ls : Str} {x : V} (lo : Lot ls) (h : Odd H ls x) : BadW K H ls x := by
  have sz : sizeLine = 16777216 := sizeLine_eq
  rcases h with rfl | rfl | ⟨t, rfl, ht⟩ | ⟨t, rfl, ht⟩ | rfl | rfl | rfl | rfl
  · exact .inl ⟨"NoneType", .base .non, by decide +kernel⟩
  · exact .inl ⟨"int", .base (.int 5), by decide +kernel⟩
  · exact .inl ⟨"tuple", .base (.tup ht), by decide +kernel⟩
  · exact .inl ⟨"list", .base (.lst ht), by decide +kernel⟩
  · exact .inr ⟨"A", rfl, by show 1 ≤ sizeLine; omega, bad_sign (c := 65) (by decide +kernel) lo.A⟩
  · exact .inr ⟨"a b", rfl, by show 3 ≤ sizeLine; omega, bad_sign (c := 32) (by decide +kernel) lo.sp⟩
  · refine .inr ⟨_, rfl, ?_, bad_sign (c := 113) ?_ lo.q⟩
    · rw [app_len]
      have := lo.len
      have e : ("q" : Str).length = 1 := rfl
      omega
    · rw [app_cps]
      exact List.mem_append_right _ (by decide +kernel)
  · exact .inl ⟨"bool", .base (.bl true), by decide +kernel⟩
/-- an odd value is a list or a tuple, or neither -/
theorem odd_kind {K : PySem.W.Frag} {H : Hp} {ls : Str} {x : V} (h : Odd H ls x) : (∃ a xs, x = .ref a ∧ Sq K H a xs) ∨ NotSeq K H x := by
  rcases h with rfl | rfl | ⟨t, rfl, ht⟩ | ⟨t, rfl, ht⟩ | rfl | rfl | rfl | rfl
  · exact .inr ⟨"NoneType", .base .non, by decide +kernel, by decide +kernel⟩
  · exact .inr ⟨"int", .base (.int 5), by decide +kernel, by decide +kernel⟩
  · exact .inl ⟨t, _, rfl, .inr (.inl (.inl ht))⟩
  · exact .inl ⟨t, _, rfl, .inl (.inl (.inl ht))⟩
  · exact .inr ⟨"str", .base (.str _), by decide +kernel, by decide +kernel⟩
  · exact .inr ⟨"str", .base (.str _), by decide +kernel, by decide +kernel⟩
  · exact .inr ⟨"str", .base (.str _), by decide +kernel, by decide +kernel⟩
  · exact .inr ⟨"bool", .base (.bl true), by decide +kernel, by decide +kernel⟩
theorem tyx_ext {K : PySem.W.Frag} {H H' : Hp} (g : ExtN H H') {x : V} {t : Value} (h : TyX K H x t) : TyX K H' x t := by
  have no : ∀ {o : HO}, (∀ ps, o ≠ .tbl ps) → ∀ {b}, H b = some o → H' b = some o := fun n b e => g b _ e n
  cases h with
  | base b =>
    cases b with
    | non => exact .base .non
    | bl y => exact .base (.bl y)
    | int i => exact .base (.int i)
    | str z => exact .base (.str z)
    | flt z => exact .base (.flt z)
    | lst e => exact .base (.lst (no (by intro ps z; cases z) e))
    | frz e => exact .base (.frz (no (by intro ps z; cases z) e))
    | tup e => exact .base (.tup (no (by intro ps z; cases z) e))
    | dK e => exact .base (.dK (no (by intro ps z; cases z) e))
    | dT e => exact .base (.dT (no (by intro ps z; cases z) e))
    | ins e cl ha hn ht hm => exact .base (.ins (no (by intro ps z; cases z) e) cl ha hn ht hm)
  | byt b => exact .byt b
  | set e => exact .set (no (by intro ps z; cases z) e)
  | kList e c => exact .kList e c
  | kTuple e c => exact .kTuple e c
  | kDict e c => exact .kDict e c
  | fTuple e => exact .fTuple (no (by intro ps z; cases z) e)
  | fDict e => exact .fDict (no (by intro ps z; cases z) e)
theorem NotSeq.ext {K : PySem.W.Frag} {H H' : Hp} (g : ExtN H H') {x : V} (h : NotSeq K H x) : NotSeq K H' x := by
  obtain ⟨t, h1, h2⟩ := h
  exact ⟨t, tyx_ext g h1, h2⟩
theorem BadW.ext {K : PySem.W.Frag} {H H' : Hp} (g : ExtN H H') {ls : Str} {x : V} (h : BadW K H ls x) : BadW K H' ls x := h.imp (fun ⟨t, h1, h2⟩ => ⟨t, tyx_ext g h1, h2⟩) id
theorem Grows.extN {H H' : Hp} (g : Grows H H') : ExtN H H' := fun b o h _ => g b o h
/-- isinstance(_law_caught(lambda: ..), C), where the lambda raises a C -/
theorem go_caught {K : PySem.W.Frag} {Pt C CS : Addr} {t : XK → TE} {σ : L2.St} {H : Hp} {Q : VK} (R : Hp → Prop) (exm : PySem.W.exmOne K (.ref C) (.ref CS) = some true) (EC : ExcC K C) (kit : PySem.W.kitOne K (.ref C) (.ref C) = some true) (tab : Tabs [(Pt, qLam)] H)
    (h : ∀ H1 E Q', ExtN H H1 → Tabs [(Pt, qLam)] H1 → (∀ H2, R H2 → E (.ref C) none H2) → t E σ H1 Q') (q : ∀ H2 a, R H2 → H2 a = none → Q (.bl true) (upd H2 a (.ext (Kept (.ref C) none a)))) :
    tCB (rIsKept K) (tCons (tLam [(Pt, qLam)] (TCaught K CS) t) (tCons (tC (.ref C)) tNil)) σ H Q := by
  refine ⟨tab, fun H1 e1 t1 => ?_⟩
  refine h H1 _ _ e1 t1 fun H2 r2 => ⟨exm, fun a na => ?_⟩
  exact ⟨a, C, .ref C, .ref C, true, rfl, upd_same, EC, fun u r => r, kit, q H2 a r2 na⟩
theorem goodD_words {ws : List Str} (h : ∀ z ∈ ws, PyData.strOk z = true ∧ z.length ≤ 100) (hl : ws.length ≤ 1000) : GoodD (dWords ws) := by
  have can : (dWords ws).canLay0 = true := by
    unfold dWords
    rw [PyData.canLay0]
    exact can_strs fun z hz => (h z hz).1
  have dep : (dWords ws).depth = 1 := by
    unfold dWords
    rw [PyData.depth, dep_strs]
  have wt : ∀ l : List Str, (∀ z ∈ l, z.length ≤ 100) → PyData.weightAll (l.map PyData.str) ≤ 101 * l.length := by
    intro l
    induction l with
    | nil => intro _; exact Nat.le_refl _
    | cons z l ih =>
      intro hz
      have h1 := ih fun y hy => hz y (List.mem_cons_of_mem _ hy)
      have h2 := hz z List.mem_cons_self
      rw [List.map_cons, PyData.weightAll, List.length_cons]
      have e : PyData.weight (.str z) = z.length := by rw [PyData.weight]; rfl
      omega
  have w : (dWords ws).weight ≤ 2 ^ 20 := by
    unfold dWords
    rw [PyData.weight]
    have := wt ws fun z hz => (h z hz).2
    omega
  refine ⟨?_, by rw [dep]; decide, ?_, ?_, PyData.hasDict_of_canLay _ can⟩
  · unfold PyData.layable0
    rw [can, dep, decide_eq_true w]
    rfl
  · unfold dWords
    rw [PyData.intsShort]
    exact PyData.intsShortAll_strs 13 ws
  · have e : ∀ l : List Str, PyData.showableAll (l.map PyData.str) = true := by
      intro l
      induction l with
      | nil => rfl
      | cons z l ih => rw [List.map_cons, PyData.showableAll, ih]; rfl
    unfold dWords
    rw [PyData.showable]
    exact e ws
theorem dp_words {K : PySem.W.Frag} {H : Hp} {a : Addr} {ws : List Str} (h : H a = some (.lst (ws.map V.str))) : Dp K H (.ref a) (dWords ws) := .lst (.inl (.inl h)) dp_strs
theorem okW_of {ls z : Str} (h : Wd 20 ls z) : okW ls z := by
  have sz : sizeLine = 16777216 := sizeLine_eq
  refine ⟨?_, by have := h.2; omega⟩
  unfold okWord
  rw [Bool.and_eq_true]
  exact ⟨decide_eq_true (by have := h.2; omega), List.all_eq_true.mpr fun c hc => decide_eq_true (h.1 c hc)⟩
/-- odd if not isinstance(odd, (list, tuple)) else None -/
theorem go_item2 {K : PySem.W.Frag} {σ : L2.St} {H : Hp} {Q : VK} {ls : Str} {od : V} (h5 : σ[5]? = some (some od)) (hod : Odd H ls od) (q : ∀ H' y, Grows H H' → NotSeq K H' y → Q y H') :
    tIf (tNot fun σ H Q => tCB (rIsiT K) (tCons (tVar 5) (tCons (tTup (tCons (tC (.ty "list")) (tCons (tC (.ty "tuple")) tNil))) tNil)) σ H fun x H' => ∃ k, TruV K x H' k ∧ Q k H') (tVar 5) (tC .non) σ H Q := by
  refine ⟨_, h5, by show 2 ≤ sizeLine; decide, fun tp ntp => ?_⟩
  have gt : Grows H (upd H tp (.tup [.ty "list", .ty "tuple"])) := Grows.new ntp
  have kt : upd H tp (.tup [.ty "list", .ty "tuple"]) tp = some (.tup [.ty "list", .ty "tuple"]) := upd_same
  generalize upd H tp (.tup [.ty "list", .ty "tuple"]) = H1 at gt kt ⊢
  rcases odd_kind (K := K) hod with ⟨b, xs, rfl, hs⟩ | ⟨t, ty, k1, k2⟩
  · obtain ⟨t, ty, ka⟩ := ty_sq (gt.sq hs)
    exact ⟨_, tp, _, .type t, [.type "list", .type "tuple"], true, rfl, kt, .cons (.ty _) (.cons (.ty _) .nil), ty, ka, true, rfl, if_neg_of (by decide) (q H1 .non gt ⟨"NoneType", .base .non, by decide +kernel, by decide +kernel⟩)⟩
  · exact ⟨_, tp, _, .type t, [.type "list", .type "tuple"], false, rfl, kt, .cons (.ty _) (.cons (.ty _) .nil), tyx_grows gt ty, NotSeq.kit k1 k2, false, rfl, if_pos_of (by decide) ⟨_, h5, q H1 _ gt ⟨t, tyx_grows gt ty, k1, k2⟩⟩⟩
theorem odd_grows {H H' : Hp} (g : Grows H H') {ls : Str} {x : V} (h : Odd H ls x) : Odd H' ls x := by
  rcases h with e | e | ⟨t, e, ht⟩ | ⟨t, e, ht⟩ | e | e | e | e
  · exact .inl e
  · exact .inr (.inl e)
  · exact .inr (.inr (.inl ⟨t, e, g _ _ ht⟩))
  · exact .inr (.inr (.inr (.inl ⟨t, e, g _ _ ht⟩)))
  · exact .inr (.inr (.inr (.inr (.inl e))))
  · exact .inr (.inr (.inr (.inr (.inr (.inl e)))))
  · exact .inr (.inr (.inr (.inr (.inr (.inr (.inl e))))))
  · exact .inr (.inr (.inr (.inr (.inr (.inr (.inr e))))))
theorem ExtN.tr {H H1 H2 : Hp} (a : ExtN H H1) (b : ExtN H1 H2) : ExtN H H2 := fun c o h n => b c o (a c o h n) n
end SWL
set_option Elab.async false
set_option linter.all false
set_option maxRecDepth 100000
set_option maxHeartbeats 16000000
namespace SWL
open PySem PySem.Spec PyProof.Rows L2 LamX
def spLaw (K : PySem.W.Frag) (Pt : Addr) : Sp := fun vs H Q _ => ∃ (a : Addr) (ns : List Int), vs = [.ref a] ∧ SqL K H a (ns.map V.int) ∧ ns.length ≤ 63 ∧ H Pt = some (.tbl #[]) ∧ ∀ H', Q (.bl true) H'
/-- an error class as isinstance and except see it -/
structure SeenC (K : PySem.W.Frag) (C CS : Addr) : Prop where
  exm : PySem.W.exmOne K (.ref C) (.ref CS) = some true
  ec : ExcC K C
  kit : PySem.W.kitOne K (.ref C) (.ref C) = some true
section
variable {P : Program} {w : World} {K : PySem.W.Frag} {mg : Str → Option Value} {base : Heap}
theorem ok_law {CN CW CS fC f c Pt : Addr} {oc0 kV0 doc0 pm0 ct0 : Value} {an0 od0 : Option Addr} {osl0 : Array (Option Value)} (lk : K.lookup f = some ⟨oc0, od0, .func (PySem.W.fnOf "law" "law" (defArgs sLaw) (defBody sLaw) (defScope sLaw) .none kV0 doc0 pm0 an0 (.ref c) ct0), osl0⟩)
    (hcd : PySem.W.codeIn K (.ref c) "law" = true) (B : Blt mg) (C : Callees P w K mg base CN CW CS) (CK : CaughtK K mg fC) (TB : TabB base mg c Pt)
    (mgW : mg "NoWord" = some (.ref CW)) (mgN : mg "NoLetters" = some (.ref CN)) (mgS : mg "SwingError" = some (.ref CS)) (SN : SeenC K CN CS) (SW : SeenC K CW CS) :
    FnG P w K mg base 8 f (PySem.W.fnOf "law" "law" (defArgs sLaw) (defBody sLaw) (defScope sLaw) .none kV0 doc0 pm0 an0 (.ref c) ct0) ["script"] (spLaw K Pt) := by
  refine ⟨fun vs H Q E h => (by obtain ⟨a, ns, rfl, _⟩ := h; rfl), fun A outer s H args us vs Q E gA hr0 e0 hb r h => run_ofS (k := 7) lk hcd scLaw hr0 e0 hb r (by obtain ⟨a, ns, rfl, _⟩ := h; rfl) fun hr => ?_⟩
  obtain ⟨f1, fd1, D1, G1⟩ := C.begun
  obtain ⟨f2, fd2, D2, G2⟩ := C.moL
  obtain ⟨f3, fd3, D3, G3⟩ := C.draw
  obtain ⟨f4, fd4, D4, G4⟩ := C.pick
  obtain ⟨f5, fd5, D5, G5⟩ := C.moLeast
  obtain ⟨f6, fd6, D6, G6⟩ := C.is
  obtain ⟨f7, fd7, D7, G7⟩ := C.odd
  obtain ⟨f8, fd8, D8, KB8, G8⟩ := C.least
  obtain ⟨f9, fd9, D9, G9⟩ := C.strewn
  obtain ⟨oc, kV, doc, pm, cdv, ct, an, od, osl, lkC, cdC, bC⟩ := CK.ex
  have u64 : (A.deeper (envOfC "law" (defScope sLaw) s.heap.objs.size f (.ref c))).units + 64 < cLine := by have := hr.un; omega
  have gX : (A.deeper (envOfC "law" (defScope sLaw) s.heap.objs.size f (.ref c))).guards = some [] := gA
  refine ⟨_, PSs.nox (pss_cons (ps_set (i := 8) scLaw.nd rfl (Or.inr rfl) (pe_call G1 (hr.mono (by decide)) (by rfl) D1.g D1.k D1.b .nil pass0 (pa_cons (pv 0) pa_nil)))
  (pss_cons (ps_for PassesOwn.never rfl (pi_range1 (by rfl) B.range (pa_cons (pe_op op_add pe_int (pe_callB (call_min2 rfl) (by rfl) B.min (by decide +kernel) (pa_cons (pe_callB call_len_seq (by rfl) B.len PySem.boot_len (pa_cons (pv 0) pa_nil)) (pa_cons pe_int pa_nil)))) pa_nil)) (pg_name (i := 1) scLaw.nd rfl (Or.inl rfl)) (pss_cons (ps_set (i := 6) scLaw.nd rfl (Or.inr rfl) (pe_call G2 (hr.mono (by decide)) (by rfl) D2.g D2.k D2.b .nil pass0 (pa_cons (pv 8) pa_nil)))
  (pss_cons (ps_setLc (i := 2) (own := [("lap", 9)]) (g := gName 9) (tt := tYes) (te := tWord K) rfl scLaw.nd rfl rfl (sw_true rfl rfl rfl (by decide +kernel)) (pi_range1 (by rfl) B.range (pa_cons (pe_call G3 (hr.mono (by decide)) (by rfl) D3.g D3.k D3.b .nil pass0 (pa_cons (pv 8) (pa_cons pe_int pa_nil))) pa_nil)) (blkOk_by (N := N18) (sc := defScope sLaw) (by decide +kernel)) (fun _ _ _ _ _ => (pg_name (i := 9) scLaw.nd rfl (Or.inl rfl))) (fun _ _ _ _ _ => pts_nil) (fun _ _ _ _ _ => pe_join pe_str (pe_lc (own := [("at", 10)]) (g := gName 10) (tt := tYes) rfl scLaw.nd (pi_range1 (by rfl) B.range (pa_cons (pe_call G3 (hr.mono (by decide)) (by rfl) D3.g D3.k D3.b .nil pass0 (pa_cons (pv 8) (pa_cons pe_int pa_nil))) pa_nil)) (blkOk_by (N := N18) (sc := lapScope) (by decide +kernel)) (fun _ _ _ _ _ => (pg_name (i := 10) scLaw.nd rfl (Or.inl rfl))) (fun _ _ _ _ _ => pts_nil) (fun _ _ _ _ _ => (pe_call G4 (hr.mono (by decide)) (by rfl) D4.g D4.k D4.b .nil pass0 (pa_cons (pv 8) (pa_cons (pe_callTy (cr_listStr rfl) (by rfl) B.list (by decide +kernel) (pa_cons (pv 6) pa_nil)) pa_nil)))))))
  (pss_cons (ps_if (pw_and (pt_cmpR (op_neD u64) (pv 2) (pe_lst pa_nil) (nomark _)) (pw_and1 (pt_cmpR op_eq (pe_call G3 (hr.mono (by decide)) (by rfl) D3.g D3.k D3.b .nil pass0 (pa_cons (pv 8) (pa_cons pe_int pa_nil))) pe_int (nomark _)))).pt (pss_one (ps_expr (pe_bm PySem.F.plainAttrs_list PySem.F.slot_list_append PySem.F.type_list_append mt_append (pv 2) (pa_cons (pe_op op_add_str (pe_ix ix_list (pv 2) pe_int (fun _ _ => rfl)) (pv 6)) pa_nil)))) pss_nil)
  (pss_cons (ps_set (i := 3) scLaw.nd rfl (Or.inl rfl) (pe_call G5 (hr.mono (by decide)) (by rfl) D5.g D5.k D5.b .nil pass0 (pa_cons (pv 2) pa_nil)))
  (pss_cons (ps_if (pw_or (pt_not (pt_truth (pe_callG gX G6 (hr.mono (by decide)) (by rfl) D6.g D6.k D6.b (pa_cons (pe_call G8 (hr.mono (by decide)) (by rfl) D8.g D8.k D8.b .nil (passE0 rfl rfl) (pa_cons (pv 6) (pa_cons (pv 2) pa_nil))) (pa_cons (pv 3) pa_nil))) (by intro _; rfl))) (pw_or1 (pt_not (pt_truth (pe_callG gX G6 (hr.mono (by decide)) (by rfl) D6.g D6.k D6.b (pa_cons (pe_kwCall G8 (hr.mono (by decide)) (by rfl) D8.g D8.k KB8 (passE0 rfl rfl) (pk_cons (pe_callTy call_tuple_of (by rfl) B.tuple (by decide +kernel) (pa_cons (pv 2) pa_nil)) (pk_cons (pv 6) pk_nil))) (pa_cons (pv 3) pa_nil))) (by intro _; rfl))))).pt (pss_one (ps_ret pe_bl)) pss_nil)
  (pss_cons (ps_if (pw_or (pt_not (pt_truth (pe_callG gX G6 (hr.mono (by decide)) (by rfl) D6.g D6.k D6.b (pa_cons (pe_call G8 (hr.mono (by decide)) (by rfl) D8.g D8.k D8.b .nil (passE0 rfl rfl) (pa_cons (pv 6) (pa_cons (pe_op op_cat (pv 3) (pe_revL (pv 3))) pa_nil))) (pa_cons (pv 3) pa_nil))) (by intro _; rfl))) (pw_or1 (pt_not (pt_truth (pe_callG gX G6 (hr.mono (by decide)) (by rfl) D6.g D6.k D6.b (pa_cons (pe_call G8 (hr.mono (by decide)) (by rfl) D8.g D8.k D8.b .nil (passE0 rfl rfl) (pa_cons (pv 6) (pa_cons (pe_op op_cat (pv 2) (pe_lst (pa_cons pe_str pa_nil))) pa_nil))) (pa_cons (pe_lst (pa_cons pe_str pa_nil)) pa_nil))) (by intro _; rfl))))).pt (pss_one (ps_ret pe_bl)) pss_nil)
  (pss_cons (ps_for PassesOwn.never rfl (pi_list (pv 2)) (pg_name (i := 4) scLaw.nd rfl (Or.inr rfl)) (pss_one (ps_if (pt_cmpR (op_eqD u64) (pe_lc (own := [("one", 11)]) (g := gName 11) (tt := tTest (tOp (fun x y H Q => ∃ a b, x = .bl a ∧ y = .bl b ∧ Q (.bl (decide (a = b))) H) (tCall spStrewn [] E0 (tCons (tVar 6) (tCons (tVar 11) (tCons (tVar 4) tNil)))) (tC (.bl true)))) rfl scLaw.nd (pi_list (pv 3)) (blkOk_by (N := N18) (sc := defScope sLaw) (by decide +kernel)) (fun _ _ _ _ _ => (pg_name (i := 11) scLaw.nd rfl (Or.inl rfl))) (fun _ _ _ _ _ => pts_one (pt_cmpR op_is_bl (pe_call G9 (hr.mono (by decide)) (by rfl) D9.g D9.k D9.b .nil pass0 (pa_cons (pv 6) (pa_cons (pv 11) (pa_cons (pv 4) pa_nil)))) pe_bl (nomark _))) (fun _ _ _ _ _ => pv 11)) (pe_lst pa_nil) (nomark _)) (pss_one (ps_ret pe_bl)) pss_nil)))
  (pss_cons (ps_set (i := 5) scLaw.nd rfl (Or.inl rfl) (pe_call G7 (hr.mono (by decide)) (by rfl) D7.g D7.k D7.b .nil pass0 (pa_cons (pv 8) (pa_cons (pv 6) pa_nil))))
  (pss_cons (ps_for PassesOwn.never rfl (pi_list (pe_lst (pa_cons (pe_op op_cat (pv 2) (pe_lst (pa_cons (pv 5) pa_nil))) (pa_cons (pe_ifExp (pt_not (pt_truth (pe_callB call_isiT (by rfl) B.isi (by decide +kernel) (pa_cons (pv 5) (pa_cons (pe_tup (pa_cons (pe_bltn (u := .type "list") (v := .ty "list") (by rfl) B.list (by decide +kernel) rfl) (pa_cons (pe_bltn (u := .type "tuple") (v := .ty "tuple") (by rfl) B.tuple (by decide +kernel) rfl) pa_nil))) pa_nil))) (by intro _; rfl))) (pv 5) pe_non) (pa_cons (pe_disp (pps_cons pe_str pe_int pps_nil) (by rfl) (by rfl) (by simp) (by decide)) pa_nil))))) (pg_name (i := 7) scLaw.nd rfl (Or.inr rfl)) (pss_one (ps_if (pt_not (pt_truth (pe_callB call_isKept (by rfl) B.isi (by decide +kernel) (pa_cons (pe_lamcall (k := 5) (T := [(Pt, qLam)]) (TT := TCaught K CS) (Ng := ["action", "found", "error"]) (t := fun E => tCall (spLeast K CN CW) [] E (tCons (tVar 6) (tCons (tVar 7) tNil))) (by rfl) CK.g CK.k lkC cdC bC scCaught rfl (Or.inl rfl) (caught_gives rfl mgS (by decide) rfl rfl (by decide +kernel) (by decide) (by decide) (by decide) (by decide)) TB rfl List.mem_cons_self (fun p hp e => by cases List.mem_singleton.mp hp; rfl) hr (lamS_by (sc := defScope sLaw) (by decide +kernel)) rfl (fun _ _ _ _ _ => rfl) (fun A outer s H E f c' hr2 => pe_call G8 (hr2.mono (by decide)) (by rfl) D8.g D8.k D8.b .nil (passes_call (takes_of rfl rfl rfl rfl) fun _ _ _ _ h => h) (pa_cons (pv 6) (pa_cons (pv 7) pa_nil)))) (pa_cons (pe_glob (v := .ref CW) (by rfl) mgW rfl) pa_nil))) (by intro _; rfl))) (pss_one (ps_ret pe_bl)) pss_nil)))
  (pss_one (ps_if (pt_not (pt_truth (pe_callB call_isKept (by rfl) B.isi (by decide +kernel) (pa_cons (pe_lamcall (k := 5) (T := [(Pt, qLam)]) (TT := TCaught K CS) (Ng := ["action", "found", "error"]) (t := fun E => tCall (spLeast K CN CW) [] E (tCons (tCall spPick [] E0 (tCons (tVar 8) (tCons (tLst (tCons (tC (.str "")) (tCons (tC (.str "ba")) (tCons (tC (.str "aa")) (tCons (tC .non) (tCons (tC (.int 5)) (tCons (tC (.str "abcde")) tNil))))))) tNil))) (tCons (tC .non) tNil))) (by rfl) CK.g CK.k lkC cdC bC scCaught rfl (Or.inl rfl) (caught_gives rfl mgS (by decide) rfl rfl (by decide +kernel) (by decide) (by decide) (by decide) (by decide)) TB rfl List.mem_cons_self (fun p hp e => by cases List.mem_singleton.mp hp; rfl) hr (lamS_by (sc := defScope sLaw) (by decide +kernel)) rfl (fun _ _ _ _ _ => rfl) (fun A outer s H E f c' hr2 => pe_call G8 (hr2.mono (by decide)) (by rfl) D8.g D8.k D8.b .nil (passes_call (takes_of rfl rfl rfl rfl) fun _ _ _ _ h => h) (pa_cons (pe_call G4 (hr2.mono (by decide)) (by rfl) D4.g D4.k D4.b .nil pass0 (pa_cons (pv 8) (pa_cons (pe_lst (pa_cons pe_str (pa_cons pe_str (pa_cons pe_str (pa_cons pe_non (pa_cons pe_int (pa_cons pe_str pa_nil))))))) pa_nil))) (pa_cons pe_non pa_nil)))) (pa_cons (pe_glob (v := .ref CN) (by rfl) mgN rfl) pa_nil))) (by intro _; rfl))) (pss_one (ps_ret pe_bl)) pss_nil))))))))))))
  (pss_one (ps_ret pe_bl)))), ?_⟩
  have sz : sizeLine = 16777216 := sizeLine_eq
  obtain ⟨a0, ns, rfl, hS, hn, hP, q⟩ := h
  refine ⟨_, rfl, a0, ns, rfl, hS, by omega, fun H1 a g cA cs g1 s1 na ng => ?_⟩
  have L1 : LS H1 a g cA cs 0 Pt := ⟨s1, fun p hp => by cases List.mem_singleton.mp hp; exact TabS.nil (g1 _ _ hP)⟩
  refine ⟨_, rfl, a0, ns.map V.int, rfl, .inl (g1.l hS), _, _, rfl, _, _, rfl, rfl, _, rfl, by split <;> omega, by split <;> omega, ?_⟩
  refine for_it walk_range (fun i σ H' => (∃ v1 v2 v3 v4 v5 v6 v7 v9 v10 v11 : Option V, σ = [some (.ref a0), v1, v2, v3, v4, v5, v6, v7, some (.ref a), v9, v10, v11]) ∧ LS H' a g cA cs (1000 * i) Pt)
    ⟨⟨none, none, none, none, none, none, none, none, none, none, rfl⟩, L1⟩ (fun _ _ _ _ _ => trivial) ?_ ?_
  · rintro i x σ H2 H3 hi ⟨⟨v1, v2, v3, v4, v5, v6, v7, v9, v10, v11, rfl⟩, L⟩ ⟨rfl, rfl⟩
    have hi7 : i < 7 := by
      have : (3 + if (4 : Int) < ((ns.map V.int).length : Int) then 4 else ((ns.map V.int).length : Int)).toNat ≤ 7 := by split <;> omega
      omega
    refine ⟨_, rfl, a, g, cA, cs, 1000 * i, rfl, L.sat, by omega, fun H4 ls hls s4 b4 => ?_⟩
    have lo := lot_of hls
    have L4 := L.but b4 s4
    dsimp only [gName, tSeq, tAsg]
    refine go_words (K := K) (σ := [some (.ref a0), some (.int (0 + (i : Int))), v2, v3, v4, v5, some (.str ls), v7, some (.ref a), v9, v10, v11]) L4 (by omega) rfl rfl (by have := lo.len; omega) lo.pos fun H5 D ws0 L5 hwl hws hD dG dC => ?_
    refine go_append (K := K) (σ := [some (.ref a0), some (.int (0 + (i : Int))), some (.ref D), v3, v4, v5, some (.str ls), v7, some (.ref a), v9, v10, v11]) L5 (by omega) rfl rfl rfl (by have := lo.len; omega) lo.small hwl hws hD dG dC fun H6 ws L6 hl6 hw6 hD6 => ?_
    have hpy : ∀ z ∈ ws, PyStr z := fun z hz => ⟨by have := (hw6 z hz).2; omega, ok_small lo.small (hw6 z hz).1⟩
    refine ⟨_, rfl, D, ws, rfl, .inl (.inl hD6), by omega, hpy, fun H7 U g7 hU nU => ?_⟩
    have L7 := L6.grows g7
    have hD7 := g7 _ _ hD6
    have hlsz : ls.length ≤ sizeLine := by have := lo.len; omega
    have hdm : ∀ z ∈ dueW ws, z ∈ ws := fun z hz => due_mem hz
    have gd : GoodD (dWords (dueW ws)) := goodD_words (fun z hz => ⟨(hpy z (hdm z hz)).2, by have := (hw6 z (hdm z hz)).2; omega⟩) (by have := due_len ws; omega)
    have gd3 : (dWords (dueW ws)).depth < 3 := by
      unfold dWords
      rw [PyData.depth, dep_strs]
      decide
    have okw : ∀ z ∈ ws, okW ls z := fun z hz => okW_of (hw6 z hz)
    have eL : leastF (sortW ws) = dueW ws := least_same ws
    have hU7 : H7 U = some (.lst ((dueW ws).map V.str)) := hU
    clear hU
    -- least_of(letters, words), least_of(words=tuple(words), letters=letters)
    refine ⟨_, rfl, _, rfl, .str ls, .ref D, rfl, .inr ⟨ls, rfl, hlsz, lo.ok, .inr ⟨D, rfl, .inl ⟨ws, .inl (.inl (.inl hD7)), by omega, okw, fun H8 p g8 hp => ?_⟩⟩⟩⟩
    rw [eL] at hp
    refine ⟨_, rfl, p, U, dWords (dueW ws), rfl, dp_words hp, dp_words (g8 _ _ hU7), gd, gd3, fun H9 g9 => ⟨true, rfl, if_neg_of (by decide) ?_⟩⟩
    have g79 := g8.trans g9
    refine ⟨_, rfl, D, ws.map V.str, rfl, .inl ⟨.inl (.inl (g79 _ _ hD7)), fun T nT => ?_⟩⟩
    have gT : Grows H9 (upd H9 T (.tup (ws.map V.str))) := Grows.new nT
    have kT : upd H9 T (.tup (ws.map V.str)) T = some (.tup (ws.map V.str)) := upd_same
    generalize upd H9 T (.tup (ws.map V.str)) = H10 at gT kT ⊢
    refine ⟨_, rfl, .str ls, .ref T, rfl, .inr ⟨ls, rfl, hlsz, lo.ok, .inr ⟨T, rfl, .inl ⟨ws, .inr (.inl (.inl kT)), by omega, okw, fun H11 p2 g11 hp2 => ?_⟩⟩⟩⟩
    rw [eL] at hp2
    have g7b := (g79.trans gT).trans g11
    refine ⟨_, rfl, p2, U, dWords (dueW ws), rfl, dp_words hp2, dp_words (g7b _ _ hU7), gd, gd3, fun H12 g12 => ⟨true, rfl, if_neg_of (by decide) ?_⟩⟩
    have g7c := g7b.trans g12
    have hU12 := g7c _ _ hU7
    have hD12 := g7c _ _ hD7
    have L12 := L7.grows g7c
    -- least_of(letters, due + due[::-1]), least_of(letters, words + [''])
    refine ⟨_, rfl, _, rfl, _, rfl, U, (dueW ws).map V.str, rfl, .inl (.inl hU12), fun R nR => ?_⟩
    have gR : Grows H12 (upd H12 R (.lst ((dueW ws).map V.str).reverse)) := Grows.new nR
    have kR : upd H12 R (.lst ((dueW ws).map V.str).reverse) R = some (.lst ((dueW ws).reverse.map V.str)) := by rw [upd_same, List.map_reverse]
    generalize upd H12 R (.lst ((dueW ws).map V.str).reverse) = H13 at gR kR ⊢
    have dl := due_len ws
    refine ⟨U, R, (dueW ws).map V.str, (dueW ws).reverse.map V.str, rfl, rfl, gR _ _ hU12, kR, by rw [List.length_map, List.length_map, List.length_reverse]; omega, fun S nS => ?_⟩
    rw [← List.map_append]
    have gS : Grows H13 (upd H13 S (.lst ((dueW ws ++ (dueW ws).reverse).map V.str))) := Grows.new nS
    have kS : upd H13 S (.lst ((dueW ws ++ (dueW ws).reverse).map V.str)) S = some (.lst ((dueW ws ++ (dueW ws).reverse).map V.str)) := upd_same
    generalize upd H13 S (.lst ((dueW ws ++ (dueW ws).reverse).map V.str)) = H14 at gS kS ⊢
    refine ⟨.str ls, .ref S, rfl, .inr ⟨ls, rfl, hlsz, lo.ok, .inr ⟨S, rfl, .inl ⟨dueW ws ++ (dueW ws).reverse, .inl (.inl (.inl kS)), by rw [List.length_append, List.length_reverse]; omega, fun z hz => okw z (hdm z (by simpa using hz)), fun H15 p3 g15 hp3 => ?_⟩⟩⟩⟩
    rw [due_twice] at hp3
    have g12a := (gR.trans gS).trans g15
    refine ⟨_, rfl, p3, U, dWords (dueW ws), rfl, dp_words hp3, dp_words (g12a _ _ hU12), gd, gd3, fun H16 g16 => ⟨true, rfl, if_neg_of (by decide) ?_⟩⟩
    have g12b := g12a.trans g16
    refine ⟨_, rfl, _, rfl, by show 1 ≤ sizeLine; decide, fun e1 ne1 => ?_⟩
    have ge1 : Grows H16 (upd H16 e1 (.lst [.str ""])) := Grows.new ne1
    have ke1 : upd H16 e1 (.lst [.str ""]) e1 = some (.lst ([("" : Str)].map V.str)) := upd_same
    generalize upd H16 e1 (.lst [.str ""]) = H17 at ge1 ke1 ⊢
    refine ⟨D, e1, ws.map V.str, [("" : Str)].map V.str, rfl, rfl, ge1 _ _ (g12b _ _ hD12), ke1, by rw [List.length_map]; show ws.length + 1 ≤ sizeLine; omega, fun e2 ne2 => ?_⟩
    rw [← List.map_append]
    have ge2 : Grows H17 (upd H17 e2 (.lst ((ws ++ [("" : Str)]).map V.str))) := Grows.new ne2
    have ke2 : upd H17 e2 (.lst ((ws ++ [("" : Str)]).map V.str)) e2 = some (.lst ((ws ++ [("" : Str)]).map V.str)) := upd_same
    generalize upd H17 e2 (.lst ((ws ++ [("" : Str)]).map V.str)) = H18 at ge2 ke2 ⊢
    have ok0 : okW ls "" := okW_of ⟨(fun c hc => by cases hc), by decide⟩
    refine ⟨.str ls, .ref e2, rfl, .inr ⟨ls, rfl, hlsz, lo.ok, .inr ⟨e2, rfl, .inl ⟨ws ++ [("" : Str)], .inl (.inl (.inl ke2)), by rw [List.length_append]; show ws.length + 1 ≤ sizeLine; omega, fun z hz => ?_, fun H19 p4 g19 hp4 => ?_⟩⟩⟩⟩
    · rcases List.mem_append.mp hz with h | h
      · exact okw z h
      · rw [List.mem_singleton.mp h]
        exact ok0
    rw [due_nil] at hp4
    refine ⟨by show 1 ≤ sizeLine; decide, fun e3 ne3 => ?_⟩
    have ge3 : Grows H19 (upd H19 e3 (.lst [.str ""])) := Grows.new ne3
    have ke3 : upd H19 e3 (.lst [.str ""]) e3 = some (.lst ([("" : Str)].map V.str)) := upd_same
    generalize upd H19 e3 (.lst [.str ""]) = H20 at ge3 ke3 ⊢
    refine ⟨p4, e3, dWords [("" : Str)], rfl, dp_words (ge3 _ _ hp4), dp_words ke3, goodD_words (fun z hz => by rw [List.mem_singleton.mp hz]; exact ⟨by decide +kernel, by decide⟩) (by decide), by unfold dWords; rw [PyData.depth, dep_strs]; decide, fun H21 g21 => ⟨true, rfl, if_neg_of (by decide) ?_⟩⟩
    have g12c := ((((g12b.trans ge1).trans ge2).trans g19).trans ge3).trans g21
    have hU21 := g12c _ _ hU12
    have hD21 := g12c _ _ hD12
    have L21 := L12.grows g12c
    -- for word in words
    refine ⟨_, rfl, D, rfl, ⟨_, .inl (.inl hD21)⟩, for_list (K := K) (a := D) (xs := ws.map V.str) (fun j σ H' => Grows H21 H' ∧ ∃ v4 v11 : Option V, σ = [some (.ref a0), some (.int (0 + (i : Int))), some (.ref D), some (.ref U), v4, v5, some (.str ls), v7, some (.ref a), v9, v10, v11])
      ⟨Grows.refl _, v4, v11, rfl⟩ (fun j σ H' _ h => .inl (.inl (h.1 _ _ hD21))) ?_ ?_⟩
    · rintro j x σ H22 hj ⟨g22, v4, v11, rfl⟩
      rw [List.getElem?_map] at hj
      obtain ⟨z, hzj, rfl⟩ : ∃ z, ws[j]? = some z ∧ x = .str z := by
        cases e : ws[j]? with
        | none => rw [e] at hj; cases hj
        | some z => rw [e] at hj; exact ⟨z, rfl, (Option.some.inj hj).symm⟩
      have hzm : z ∈ ws := List.mem_of_getElem? hzj
      have hU22 := g22 _ _ hU21
      refine ⟨_, rfl, U, rfl, ⟨_, .inl (.inl hU22)⟩, fun D2 nD2 => comp (i := 11) (te := tVar 11) (tt := tTest (tOp (fun x y H Q => ∃ a b, x = .bl a ∧ y = .bl b ∧ Q (.bl (decide (a = b))) H) (tCall spStrewn [] E0 (tCons (tVar 6) (tCons (tVar 11) (tCons (tVar 4) tNil)))) (tC (.bl true)))) (xs := (dueW ws).map V.str) (walk_list (K := K) (a := U)) (fun o => match o with | .str o => strewnB o z | _ => false) (fun o => o) nD2 (fun H g' => g'.l (.inl (.inl hU22))) (by rw [List.length_map]; omega) (fun x H5 k hx g5 hk => ?_) (fun x H5 Q hx _ g5 hq => ?_) (fun H5 g5 hD2 => ?_)⟩
      · obtain ⟨o, ho, rfl⟩ := List.mem_map.mp hx
        have h1 := okw o (hdm o ho)
        have h2 := okw z hzm
        refine ⟨_, rfl, _, rfl, _, rfl, ls, o, z, rfl, lo.ok, hlsz, h1.1, h2.1, h1.2, h2.2, fun H6 g6 => ⟨strewnB o z, true, rfl, rfl, _, rfl, ?_⟩⟩
        have e : decide (strewnB o z = true) = strewnB o z := by cases strewnB o z <;> rfl
        rw [e]
        exact hk H6 g6
      · exact ⟨_, rfl, hq H5 (Grows.refl H5)⟩
      · have ef : (((dueW ws).map V.str).filter (fun o => match o with | .str o => strewnB o z | _ => false)).map (fun o => o) = ((dueW ws).filter fun o => strewnB o z).map V.str := by
          rw [List.filter_map, List.map_id']
          rfl
        rw [ef] at hD2
        refine ⟨by show 0 ≤ sizeLine; decide, fun p2 np2 => ?_⟩
        have g6 : Grows H5 (upd H5 p2 (.lst [])) := Grows.new np2
        have k6 : upd H5 p2 (.lst []) p2 = some (.lst []) := upd_same
        generalize upd H5 p2 (.lst []) = H6 at g6 k6 ⊢
        refine ⟨dWords ((dueW ws).filter fun o => strewnB o z), .list [], .lst (.inl (.inl (g6 _ _ hD2))) dp_strs, .lst (.inl (.inl k6)) .nil, shaped_strs fun o ho => (hpy o (hdm o (List.mem_filter.mp ho).1)).2, rfl, _, rfl, ?_⟩
        rw [eqv_strs_nil]
        obtain ⟨o, ho, hoz⟩ := due_cov ws z hzm
        have hne : ¬ ((dueW ws).filter fun o => strewnB o z) = [] := fun e => by
          have : o ∈ (dueW ws).filter fun o => strewnB o z := List.mem_filter.mpr ⟨ho, hoz⟩
          rw [e] at this
          cases this
        refine if_neg_of (by rw [decide_eq_false hne]; decide) ?_
        exact ⟨(g22.trans g5).trans g6, some (.str z), v11, rfl⟩
    · rintro σ H22 ⟨g22, v4, v11, rfl⟩
      have L22 := L21.grows g22
      have hD22 := g22 _ _ hD21
      -- the odd value
      refine ⟨_, rfl, _, rfl, a, g, cA, cs, _, ls, rfl, by have := lo.len; omega, L22.sat, by omega, fun H23 od hod s23 b23 => ?_⟩
      have L23 := L22.but b23 s23
      have hD23 := b23 D _ hD22 (L22.offA hD22) dG
      refine ⟨_, rfl, _, rfl, by show 1 ≤ sizeLine; decide, fun o1 no1 => ?_⟩
      have go1 : Grows H23 (upd H23 o1 (.lst [od])) := Grows.new no1
      have ko1 : upd H23 o1 (.lst [od]) o1 = some (.lst [od]) := upd_same
      generalize upd H23 o1 (.lst [od]) = H24 at go1 ko1 ⊢
      refine ⟨D, o1, ws.map V.str, [od], rfl, rfl, go1 _ _ hD23, ko1, by rw [List.length_map]; show ws.length + 1 ≤ sizeLine; omega, fun W nW => ?_⟩
      have gW : Grows H24 (upd H24 W (.lst (ws.map V.str ++ [od]))) := Grows.new nW
      have kW : upd H24 W (.lst (ws.map V.str ++ [od])) W = some (.lst (ws.map V.str ++ [od])) := upd_same
      generalize upd H24 W (.lst (ws.map V.str ++ [od])) = H25 at gW kW ⊢
      have hod25 := odd_grows (go1.trans gW) hod
      dsimp only [tCons]
      refine go_item2 (K := K) (ls := ls) (od := od) (by rfl) hod25 fun H26 y g26 hy => ?_
      intro dd ndd
      refine ⟨upd_same, [(.inr "", .int 1)], rfl, by decide, ?_⟩
      rw [upd_upd]
      have gdd : Grows H26 (upd H26 dd (.dK (mergeK [] [(.inr "", .int 1)]))) := Grows.new ndd
      have kdd : upd H26 dd (.dK (mergeK [] [(.inr "", .int 1)])) dd = some (.dK (mergeK [] [(.inr "", .int 1)])) := upd_same
      generalize upd H26 dd (.dK (mergeK [] [(.inr "", .int 1)])) = H27 at gdd kdd ⊢
      refine ⟨by show 3 ≤ sizeLine; decide, fun Lx nLx => ?_⟩
      have gLx : Grows H27 (upd H27 Lx (.lst [.ref W, y, .ref dd])) := Grows.new nLx
      have kLx : upd H27 Lx (.lst [.ref W, y, .ref dd]) Lx = some (.lst [.ref W, y, .ref dd]) := upd_same
      generalize upd H27 Lx (.lst [.ref W, y, .ref dd]) = H28 at gLx kLx ⊢
      have g2528 := (g26.trans gdd).trans gLx
      have kW28 := g2528 _ _ kW
      have hy28 := hy.grows (gdd.trans gLx)
      have hd28 : NotSeq K H28 (.ref dd) := ⟨"dict", .base (.dK (gLx _ _ kdd)), by decide +kernel, by decide +kernel⟩
      have L28 := L23.grows ((go1.trans gW).trans g2528)
      have bad28 : BadW K H28 ls od := odd_bad lo (odd_grows g2528 hod25)
      refine ⟨Lx, rfl, ⟨_, .inl (.inl kLx)⟩, for_list (K := K) (a := Lx) (D := { nx := _, rt := _ }) (xs := [.ref W, y, .ref dd]) (fun j σ H' => ExtN H28 H' ∧ LS H' a g cA cs (1000 * i + 1 + 100 + 1 + 1) Pt ∧ ∃ v4 v7 v11 : Option V, σ = [some (.ref a0), some (.int (0 + (i : Int))), some (.ref D), some (.ref U), v4, some od, some (.str ls), v7, some (.ref a), v9, v10, v11])
        ⟨ExtN.refl _, L28, v4, v7, v11, rfl⟩ (fun j σ H' _ h => .inl (.inl (h.1 _ _ kLx (by intro ps z; cases z)))) ?_ ?_⟩
      · rintro j x σ H29 hj ⟨e29, L29, v4, v7, v11, rfl⟩
        dsimp only [gName, tIfS, tNot]
        refine go_caught (K := K) (fun H' => ExtN H28 H' ∧ LS H' a g cA cs (1000 * i + 1 + 100 + 1 + 1) Pt) SW.exm SW.ec SW.kit L29.tab (fun H30 E Q' e30 t30 hE => ?_) (fun H2 ax r2 nax => ⟨true, rfl, if_neg_of (by decide) ?_⟩)
        · have ee := ExtN.tr e29 e30
          have L30 := L29.ext e30 t30
          have fin : ∀ H', Grows H30 H' → E (.ref CW) none H' := fun H' g' => hE H' ⟨ExtN.tr ee g'.extN, L30.grows g'⟩
          refine ⟨_, rfl, _, rfl, .str ls, x, rfl, .inr ⟨ls, rfl, hlsz, lo.ok, ?_⟩⟩
          match j, hj with
          | 0, hj =>
            cases (Option.some.inj hj : V.ref W = x)
            exact .inr ⟨W, rfl, .inr ⟨ws, od, [], .inl (.inl (.inl (ee _ _ kW28 (by intro ps z; cases z)))), okw, bad28.ext ee, fin⟩⟩
          | 1, hj =>
            cases (Option.some.inj hj : y = x)
            exact .inl ⟨hy28.ext ee, fin⟩
          | 2, hj =>
            cases (Option.some.inj hj : V.ref dd = x)
            exact .inl ⟨hd28.ext ee, fin⟩
          | n + 3, hj => simp at hj
        · exact ⟨ExtN.tr r2.1 (Grows.new nax).extN, r2.2.grows (Grows.new nax), v4, some x, v11, rfl⟩
      · rintro σ H29 ⟨e29, L29, v4, v7, v11, rfl⟩
        dsimp only [tSeq, tIfS, tNot]
        refine go_caught (K := K) (fun H' => LS H' a g cA cs (1000 * i + 1 + 100 + 1 + 1 + 1) Pt) SN.exm SN.ec SN.kit L29.tab (fun H30 E Q' e30 t30 hE => ?_) (fun H2 ax r2 nax => ⟨true, rfl, if_neg_of (by decide) ?_⟩)
        · have L30 := L29.ext e30 t30
          refine ⟨_, rfl, by show 6 ≤ sizeLine; decide, fun p np => ?_⟩
          have gp : Grows H30 (upd H30 p (.lst [.str "", .str "ba", .str "aa", .non, .int 5, .str "abcde"])) := Grows.new np
          refine ⟨a, g, cA, p, cs, _, [.str "", .str "ba", .str "aa", .non, .int 5, .str "abcde"], rfl, (L30.grows gp).sat, by omega, upd_same, L30.offG np, by simp, by show 6 ≤ 1000000; decide, fun H31 x hx s31 b31 => ?_⟩
          have L31 := (L30.grows gp).but b31 s31
          have fin : ∀ H', Grows H31 H' → E (.ref CN) none H' := fun H' g' => hE H' (L31.grows g')
          refine ⟨x, .non, rfl, .inl ⟨?_, fin⟩⟩
          simp only [List.mem_cons, List.not_mem_nil, or_false] at hx
          rcases hx with rfl | rfl | rfl | rfl | rfl | rfl
          · exact .inr ⟨"", rfl, by show 0 ≤ sizeLine; omega, by decide +kernel⟩
          · exact .inr ⟨"ba", rfl, by show 2 ≤ sizeLine; omega, by decide +kernel⟩
          · exact .inr ⟨"aa", rfl, by show 2 ≤ sizeLine; omega, by decide +kernel⟩
          · exact .inl ⟨"NoneType", .base .non, by decide +kernel⟩
          · exact .inl ⟨"int", .base (.int 5), by decide +kernel⟩
          · exact .inr ⟨"abcde", rfl, by show 5 ≤ sizeLine; omega, by decide +kernel⟩
        · exact ⟨⟨_, _, _, _, _, _, _, _, _, _, rfl⟩, (r2.grows (Grows.new nax)).mono (by omega)⟩
  · rintro σ H' ⟨⟨v1, v2, v3, v4, v5, v6, v7, v9, v10, v11, rfl⟩, L⟩
    exact q H'
end
end SWL
set_option Elab.async false
set_option linter.all false
set_option maxRecDepth 100000
set_option maxHeartbeats 16000000
namespace SWL
open PySem PySem.Spec PyProof.Rows L2 LamX
/-! the facts of the top, gathered -/
theorem exm_by {K : PySem.W.Frag} {C : Value} {S : Addr} (h1 : PySem.W.subIn K (.ref S) (.type "BaseException") = some true) (h2 : PySem.W.isClsIn K S = true) (h3 : PySem.W.typeIn K (.ref S) = some (.type "type")) (h4 : PySem.W.subIn K C (.ref S) = some true) : PySem.W.exmOne K C (.ref S) = some true := by
  have e1 : (PySem.W.subIn K (.ref S) (.type "BaseException") == some true) = true := by rw [h1] <;> rfl
  have e2 : ((PySem.W.clsIn K S).isSome && PySem.W.typeIn K (.ref S) == some (.type "type")) = true := by
    have h5 : (PySem.W.clsIn K S).isSome = true := h2
    rw [h5, h3] <;> rfl
  show (if (PySem.W.subIn K (.ref S) (.type "BaseException") == some true) = true then (if ((PySem.W.clsIn K S).isSome && PySem.W.typeIn K (.ref S) == some (.type "type")) = true then PySem.W.subIn K C (.ref S) else none) else none) = some true
  rw [if_pos e1, if_pos e2]
  exact h4
theorem kit_self {K : PySem.W.Frag} {C : Addr} : PySem.W.kitOne K (.ref C) (.ref C) = some true := by
  unfold PySem.W.kitOne
  rw [if_pos (by simp)]
theorem all_mk {l : PySem.W.OpenLaw} {w : World} {K : PySem.W.Frag} {h : Heap} {mg : Str → Option Value} {q : Program} {loose : List Str} {mean : ExcName → Option Value} {mb : Str → Option Value} {dL : DefRec} {fa : Addr} (X : K.In h) (G : h.Ns mainGlobals mg) (T : Top q loose mean mg mb h) (hfa : mg "law" = some (.ref fa))
    {f0 f1 f2 f3 f4 f5 f6 f7 f8 f9 f10 f11 f12 f13 f14 f15 f16 f17 f18 f19 f20 f21 Dk cL Pt CN CW CS : Addr} {oc0 dc0 pm0 ct0 kV0 cd0 oc1 dc1 pm1 ct1 kV1 cd1 oc2 dc2 pm2 ct2 kV2 cd2 oc3 dc3 pm3 ct3 cd3 oc4 dc4 pm4 ct4 kV4 cd4 oc5 dc5 pm5 ct5 kV5 cd5 oc6 dc6 pm6 ct6 kV6 cd6 oc7 dc7 pm7 ct7 kV7 cd7 oc8 dc8 pm8 ct8 kV8 cd8 oc9 dc9 pm9 ct9 kV9 cd9 oc10 dc10 pm10 ct10 kV10 cd10 oc11 dc11 pm11 ct11 kV11 cd11 oc12 dc12 pm12 ct12 kV12 cd12 oc13 dc13 pm13 ct13 kV13 cd13 oc14 dc14 pm14 ct14 kV14 cd14 oc15 dc15 pm15 ct15 kV15 cd15 oc16 dc16 pm16 ct16 kV16 cd16 oc17 dc17 pm17 ct17 kV17 cd17 oc18 dc18 pm18 ct18 kV18 cd18 oc19 dc19 pm19 ct19 kV19 cd19 oc20 dc20 pm20 ct20 kV20 cd20 oc21 dc21 pm21 ct21 kV21 ocT : Value} {od0 an0 od1 an1 od2 an2 od3 an3 od4 an4 od5 an5 od6 an6 od7 an7 od8 an8 od9 an9 od10 an10 od11 an11 od12 an12 od13 an13 od14 an14 od15 an15 od16 an16 od17 an17 od18 an18 od19 an19 od20 an20 od21 an21 odT : Option Addr} {sl0 sl1 sl2 sl3 sl4 sl5 sl6 sl7 sl8 sl9 sl10 sl11 sl12 sl13 sl14 sl15 sl16 sl17 sl18 sl19 sl20 sl21 slT : Array (Option Value)} {tS tL tM : Tok} {vsT : Array Value}
    (hrec : (recsOf q).find? (fun e => e.name == ("law" : Str)) = some dL)
    (a0 : PySem.W.nsIn K mainGlobals "is_letters" = some (some (.ref f0)))
    (l0 : K.lookup f0 = some ⟨oc0, od0, .func (PySem.W.fnOf "is_letters" "is_letters" (defArgs sIsL) (defBody sIsL) (defScope sIsL) .none kV0 dc0 pm0 an0 cd0 ct0), sl0⟩)
    (c0 : PySem.W.codeIn K cd0 "is_letters" = true)
    (k0 : PySem.W.keepIn K (.ref f0) = true)
    (a1 : PySem.W.nsIn K mainGlobals "need_letters" = some (some (.ref f1)))
    (l1 : K.lookup f1 = some ⟨oc1, od1, .func (PySem.W.fnOf "need_letters" "need_letters" (defArgs sNeedL) (defBody sNeedL) (defScope sNeedL) .none kV1 dc1 pm1 an1 cd1 ct1), sl1⟩)
    (c1 : PySem.W.codeIn K cd1 "need_letters" = true)
    (k1 : PySem.W.keepIn K (.ref f1) = true)
    (a2 : PySem.W.nsIn K mainGlobals "is_word_to" = some (some (.ref f2)))
    (l2 : K.lookup f2 = some ⟨oc2, od2, .func (PySem.W.fnOf "is_word_to" "is_word_to" (defArgs sIsW) (defBody sIsW) (defScope sIsW) .none kV2 dc2 pm2 an2 cd2 ct2), sl2⟩)
    (c2 : PySem.W.codeIn K cd2 "is_word_to" = true)
    (k2 : PySem.W.keepIn K (.ref f2) = true)
    (a3 : PySem.W.nsIn K mainGlobals "need_word" = some (some (.ref f3)))
    (l3 : K.lookup f3 = some ⟨oc3, od3, .func (PySem.W.fnOf "need_word" "need_word" (defArgs sNeedW) (defBody sNeedW) (defScope sNeedW) .none (.ref Dk) dc3 pm3 an3 cd3 ct3), sl3⟩)
    (c3 : PySem.W.codeIn K cd3 "need_word" = true)
    (k3 : PySem.W.keepIn K (.ref f3) = true)
    (a4 : PySem.W.nsIn K mainGlobals "order_of" = some (some (.ref f4)))
    (l4 : K.lookup f4 = some ⟨oc4, od4, .func (PySem.W.fnOf "order_of" "order_of" (defArgs sOrd) (defBody sOrd) (defScope sOrd) .none kV4 dc4 pm4 an4 cd4 ct4), sl4⟩)
    (c4 : PySem.W.codeIn K cd4 "order_of" = true)
    (k4 : PySem.W.keepIn K (.ref f4) = true)
    (a5 : PySem.W.nsIn K mainGlobals "in_order" = some (some (.ref f5)))
    (l5 : K.lookup f5 = some ⟨oc5, od5, .func (PySem.W.fnOf "in_order" "in_order" (defArgs sInO) (defBody sInO) (defScope sInO) .none kV5 dc5 pm5 an5 cd5 ct5), sl5⟩)
    (c5 : PySem.W.codeIn K cd5 "in_order" = true)
    (k5 : PySem.W.keepIn K (.ref f5) = true)
    (a6 : PySem.W.nsIn K mainGlobals "is_strewn" = some (some (.ref f6)))
    (l6 : K.lookup f6 = some ⟨oc6, od6, .func (PySem.W.fnOf "is_strewn" "is_strewn" (defArgs sIsS) (defBody sIsS) (defScope sIsS) .none kV6 dc6 pm6 an6 cd6 ct6), sl6⟩)
    (c6 : PySem.W.codeIn K cd6 "is_strewn" = true)
    (k6 : PySem.W.keepIn K (.ref f6) = true)
    (a7 : PySem.W.nsIn K mainGlobals "strewn" = some (some (.ref f7)))
    (l7 : K.lookup f7 = some ⟨oc7, od7, .func (PySem.W.fnOf "strewn" "strewn" (defArgs sStr) (defBody sStr) (defScope sStr) .none kV7 dc7 pm7 an7 cd7 ct7), sl7⟩)
    (c7 : PySem.W.codeIn K cd7 "strewn" = true)
    (k7 : PySem.W.keepIn K (.ref f7) = true)
    (a8 : PySem.W.nsIn K mainGlobals "least_among" = some (some (.ref f8)))
    (l8 : K.lookup f8 = some ⟨oc8, od8, .func (PySem.W.fnOf "least_among" "least_among" (defArgs sAmong) (defBody sAmong) (defScope sAmong) .none kV8 dc8 pm8 an8 cd8 ct8), sl8⟩)
    (c8 : PySem.W.codeIn K cd8 "least_among" = true)
    (k8 : PySem.W.keepIn K (.ref f8) = true)
    (a9 : PySem.W.nsIn K mainGlobals "least_of" = some (some (.ref f9)))
    (l9 : K.lookup f9 = some ⟨oc9, od9, .func (PySem.W.fnOf "least_of" "least_of" (defArgs sLeast) (defBody sLeast) (defScope sLeast) .none kV9 dc9 pm9 an9 cd9 ct9), sl9⟩)
    (c9 : PySem.W.codeIn K cd9 "least_of" = true)
    (k9 : PySem.W.keepIn K (.ref f9) = true)
    (a10 : PySem.W.nsIn K mainGlobals "_law_begun" = some (some (.ref f10)))
    (l10 : K.lookup f10 = some ⟨oc10, od10, .func (PySem.W.fnOf "_law_begun" "_law_begun" (defArgs sBegun) (defBody sBegun) (defScope sBegun) .none kV10 dc10 pm10 an10 cd10 ct10), sl10⟩)
    (c10 : PySem.W.codeIn K cd10 "_law_begun" = true)
    (k10 : PySem.W.keepIn K (.ref f10) = true)
    (a11 : PySem.W.nsIn K mainGlobals "_law_mixed" = some (some (.ref f11)))
    (l11 : K.lookup f11 = some ⟨oc11, od11, .func (PySem.W.fnOf "_law_mixed" "_law_mixed" (defArgs sMixed) (defBody sMixed) (defScope sMixed) .none kV11 dc11 pm11 an11 cd11 ct11), sl11⟩)
    (c11 : PySem.W.codeIn K cd11 "_law_mixed" = true)
    (k11 : PySem.W.keepIn K (.ref f11) = true)
    (a12 : PySem.W.nsIn K mainGlobals "_law_draw" = some (some (.ref f12)))
    (l12 : K.lookup f12 = some ⟨oc12, od12, .func (PySem.W.fnOf "_law_draw" "_law_draw" (defArgs sDraw) (defBody sDraw) (defScope sDraw) .none kV12 dc12 pm12 an12 cd12 ct12), sl12⟩)
    (c12 : PySem.W.codeIn K cd12 "_law_draw" = true)
    (k12 : PySem.W.keepIn K (.ref f12) = true)
    (a13 : PySem.W.nsIn K mainGlobals "_law_pick" = some (some (.ref f13)))
    (l13 : K.lookup f13 = some ⟨oc13, od13, .func (PySem.W.fnOf "_law_pick" "_law_pick" (defArgs sPick) (defBody sPick) (defScope sPick) .none kV13 dc13 pm13 an13 cd13 ct13), sl13⟩)
    (c13 : PySem.W.codeIn K cd13 "_law_pick" = true)
    (k13 : PySem.W.keepIn K (.ref f13) = true)
    (a14 : PySem.W.nsIn K mainGlobals "_law_plain" = some (some (.ref f14)))
    (l14 : K.lookup f14 = some ⟨oc14, od14, .func (PySem.W.fnOf "_law_plain" "_law_plain" (defArgs sPlain) (defBody sPlain) (defScope sPlain) .none kV14 dc14 pm14 an14 cd14 ct14), sl14⟩)
    (c14 : PySem.W.codeIn K cd14 "_law_plain" = true)
    (k14 : PySem.W.keepIn K (.ref f14) = true)
    (a15 : PySem.W.nsIn K mainGlobals "_law_is" = some (some (.ref f15)))
    (l15 : K.lookup f15 = some ⟨oc15, od15, .func (PySem.W.fnOf "_law_is" "_law_is" (defArgs sIs) (defBody sIs) (defScope sIs) .none kV15 dc15 pm15 an15 cd15 ct15), sl15⟩)
    (c15 : PySem.W.codeIn K cd15 "_law_is" = true)
    (k15 : PySem.W.keepIn K (.ref f15) = true)
    (a16 : PySem.W.nsIn K mainGlobals "_law_caught" = some (some (.ref f16)))
    (l16 : K.lookup f16 = some ⟨oc16, od16, .func (PySem.W.fnOf "_law_caught" "_law_caught" (defArgs sCaught) (defBody sCaught) (defScope sCaught) .none kV16 dc16 pm16 an16 cd16 ct16), sl16⟩)
    (c16 : PySem.W.codeIn K cd16 "_law_caught" = true)
    (k16 : PySem.W.keepIn K (.ref f16) = true)
    (a17 : PySem.W.nsIn K mainGlobals "_law_mo_letters" = some (some (.ref f17)))
    (l17 : K.lookup f17 = some ⟨oc17, od17, .func (PySem.W.fnOf "_law_mo_letters" "_law_mo_letters" (defArgs sMoL) (defBody sMoL) (defScope sMoL) .none kV17 dc17 pm17 an17 cd17 ct17), sl17⟩)
    (c17 : PySem.W.codeIn K cd17 "_law_mo_letters" = true)
    (k17 : PySem.W.keepIn K (.ref f17) = true)
    (a18 : PySem.W.nsIn K mainGlobals "_law_mo_strewn" = some (some (.ref f18)))
    (l18 : K.lookup f18 = some ⟨oc18, od18, .func (PySem.W.fnOf "_law_mo_strewn" "_law_mo_strewn" (defArgs sMoS) (defBody sMoS) (defScope sMoS) .none kV18 dc18 pm18 an18 cd18 ct18), sl18⟩)
    (c18 : PySem.W.codeIn K cd18 "_law_mo_strewn" = true)
    (k18 : PySem.W.keepIn K (.ref f18) = true)
    (a19 : PySem.W.nsIn K mainGlobals "_law_mo_least" = some (some (.ref f19)))
    (l19 : K.lookup f19 = some ⟨oc19, od19, .func (PySem.W.fnOf "_law_mo_least" "_law_mo_least" (defArgs sMoLeast) (defBody sMoLeast) (defScope sMoLeast) .none kV19 dc19 pm19 an19 cd19 ct19), sl19⟩)
    (c19 : PySem.W.codeIn K cd19 "_law_mo_least" = true)
    (k19 : PySem.W.keepIn K (.ref f19) = true)
    (a20 : PySem.W.nsIn K mainGlobals "_law_mo_odd_word" = some (some (.ref f20)))
    (l20 : K.lookup f20 = some ⟨oc20, od20, .func (PySem.W.fnOf "_law_mo_odd_word" "_law_mo_odd_word" (defArgs sOdd) (defBody sOdd) (defScope sOdd) .none kV20 dc20 pm20 an20 cd20 ct20), sl20⟩)
    (c20 : PySem.W.codeIn K cd20 "_law_mo_odd_word" = true)
    (k20 : PySem.W.keepIn K (.ref f20) = true)
    (a21 : PySem.W.nsIn K mainGlobals "law" = some (some (.ref f21)))
    (l21 : K.lookup f21 = some ⟨oc21, od21, .func (PySem.W.fnOf "law" "law" (defArgs sLaw) (defBody sLaw) (defScope sLaw) .none kV21 dc21 pm21 an21 (.ref cL) ct21), sl21⟩)
    (c21 : PySem.W.codeIn K (.ref cL) "law" = true)
    (k21 : PySem.W.keepIn K (.ref f21) = true)
    (kd : PySem.W.nsIn K Dk "most" = some (some (.int 20000 tM)))
    (zs : PySem.W.nsIn K mainGlobals "SMALL" = some (some (.str "abcdefghijklmnopqrstuvwxyz" tS)))
    (zl : PySem.W.nsIn K mainGlobals "MOST_LETTERS" = some (some (.int 4 tL)))
    (z_isinstance : PySem.W.nsIn K mainGlobals "isinstance" = some none)
    (z_str : PySem.W.nsIn K mainGlobals "str" = some none)
    (z_int : PySem.W.nsIn K mainGlobals "int" = some none)
    (z_list : PySem.W.nsIn K mainGlobals "list" = some none)
    (z_tuple : PySem.W.nsIn K mainGlobals "tuple" = some none)
    (z_dict : PySem.W.nsIn K mainGlobals "dict" = some none)
    (z_len : PySem.W.nsIn K mainGlobals "len" = some none)
    (z_all : PySem.W.nsIn K mainGlobals "all" = some none)
    (z_any : PySem.W.nsIn K mainGlobals "any" = some none)
    (z_zip : PySem.W.nsIn K mainGlobals "zip" = some none)
    (z_sorted : PySem.W.nsIn K mainGlobals "sorted" = some none)
    (z_abs : PySem.W.nsIn K mainGlobals "abs" = some none)
    (z_range : PySem.W.nsIn K mainGlobals "range" = some none)
    (z_min : PySem.W.nsIn K mainGlobals "min" = some none)
    (z_repr : PySem.W.nsIn K mainGlobals "repr" = some none)
    (lT : K.lookup cL = some ⟨ocT, odT, .fields vsT, slT⟩)
    (vT : (vsT[11]? : Option Value) = some (.ref Pt))
    (nT : K.lookup Pt = none)
    (aS : PySem.W.nsIn K mainGlobals "SwingError" = some (some (.ref CS)))
    (bS : PySem.W.subIn K (.ref CS) (.type "BaseException") = some true)
    (tS2 : PySem.W.typeIn K (.ref CS) = some (.type "type"))
    (iS : PySem.W.isClsIn K CS = true)
    (aN : PySem.W.nsIn K mainGlobals "NoLetters" = some (some (.ref CN)))
    (xN : PySem.W.excIn K CN veB "ValueError.__new__" = true)
    (kkN : PySem.W.keepIn K (.ref CN) = true)
    (bN : PySem.W.subIn K (.ref CN) (.type "BaseException") = some true)
    (tN : PySem.W.typeIn K (.ref CN) = some (.type "type"))
    (sN : PySem.W.subIn K (.ref CN) (.ref CS) = some true)
    (gN : PySem.W.findIn K (.ref CN) "__getattribute__" = some (some (.builtin "BaseException.__getattribute__")))
    (hN : PySem.W.findIn K (.ref CN) "__getattr__" = some none)
    (dN : PySem.W.hasDictIn K CN = true)
    (ccN : PySem.W.findIn K (.ref CN) "__class__" = some (some (.builtin "object.__class__")))
    (mN : PySem.W.mroIn K CN (.type "object") = some true)
    (aW : PySem.W.nsIn K mainGlobals "NoWord" = some (some (.ref CW)))
    (xW : PySem.W.excIn K CW veB "ValueError.__new__" = true)
    (kkW : PySem.W.keepIn K (.ref CW) = true)
    (bW : PySem.W.subIn K (.ref CW) (.type "BaseException") = some true)
    (tW : PySem.W.typeIn K (.ref CW) = some (.type "type"))
    (sW : PySem.W.subIn K (.ref CW) (.ref CS) = some true)
    (gW : PySem.W.findIn K (.ref CW) "__getattribute__" = some (some (.builtin "BaseException.__getattribute__")))
    (hW : PySem.W.findIn K (.ref CW) "__getattr__" = some none)
    (dW : PySem.W.hasDictIn K CW = true)
    (ccW : PySem.W.findIn K (.ref CW) "__class__" = some (some (.builtin "object.__class__")))
    (mW : PySem.W.mroIn K CW (.type "object") = some true)
    (sp0 : PySem.W.specialIn K (.builtin "object.__class__") "__get__" = some (some (.builtin "getset_descriptor.__get__")))
    (tk0 : PySem.W.takesIn K (.builtin "object.__class__") = some true)
    : LawG l w K 8 63 "script" mg fa h := by
  have e := hfa.symm.trans (PySem.W.mg_of X G a21)
  cases e
  have B : Blt mg := ⟨PySem.W.mg_none_of X G z_isinstance, PySem.W.mg_none_of X G z_str, PySem.W.mg_none_of X G z_int, PySem.W.mg_none_of X G z_list, PySem.W.mg_none_of X G z_tuple, PySem.W.mg_none_of X G z_dict, PySem.W.mg_none_of X G z_len, PySem.W.mg_none_of X G z_all, PySem.W.mg_none_of X G z_any, PySem.W.mg_none_of X G z_zip, PySem.W.mg_none_of X G z_sorted, PySem.W.mg_none_of X G z_abs, PySem.W.mg_none_of X G z_range, PySem.W.mg_none_of X G z_min, PySem.W.mg_none_of X G z_repr, ⟨_, PySem.W.mg_of X G zs⟩, ⟨_, PySem.W.mg_of X G zl⟩⟩
  have mgN := PySem.W.mg_of X G aN
  have eN := exm_by bS iS tS2 sN
  have EN : ErrC K mg "NoLetters" CN CS := ⟨mgN, xN, kkN, bN, tN, eN⟩
  have SN : SeenC K CN CS := ⟨eN, ⟨gN, hN, bN, dN, ccN, sp0, tk0, mN⟩, kit_self⟩
  have mgW := PySem.W.mg_of X G aW
  have eW := exm_by bS iS tS2 sW
  have EW : ErrC K mg "NoWord" CW CS := ⟨mgW, xW, kkW, bW, tW, eW⟩
  have SW : SeenC K CW CS := ⟨eW, ⟨gW, hW, bW, dW, ccW, sp0, tk0, mW⟩, kit_self⟩
  have F0 := fun_mk (st := sIsL) l0 c0 k0
  have D0 : Def mg K "is_letters" f0 _ ["thing"] := ⟨PySem.W.mg_of X G a0, k0, F0.binds (ps := ["thing"]) fun _ _ _ _ _ _ us hl => match us, hl with | [_], _ => rfl⟩
  have F1 := fun_mk (st := sNeedL) l1 c1 k1
  have D1 : Def mg K "need_letters" f1 _ ["thing"] := ⟨PySem.W.mg_of X G a1, k1, F1.binds (ps := ["thing"]) fun _ _ _ _ _ _ us hl => match us, hl with | [_], _ => rfl⟩
  have F2 := fun_mk (st := sIsW) l2 c2 k2
  have D2 : Def mg K "is_word_to" f2 _ ["letters", "thing", "most"] := ⟨PySem.W.mg_of X G a2, k2, F2.binds (ps := ["letters", "thing", "most"]) fun _ _ _ _ _ _ us hl => match us, hl with | [_, _, _], _ => rfl⟩
  have F4 := fun_mk (st := sOrd) l4 c4 k4
  have D4 : Def mg K "order_of" f4 _ ["word"] := ⟨PySem.W.mg_of X G a4, k4, F4.binds (ps := ["word"]) fun _ _ _ _ _ _ us hl => match us, hl with | [_], _ => rfl⟩
  have F5 := fun_mk (st := sInO) l5 c5 k5
  have D5 : Def mg K "in_order" f5 _ ["words"] := ⟨PySem.W.mg_of X G a5, k5, F5.binds (ps := ["words"]) fun _ _ _ _ _ _ us hl => match us, hl with | [_], _ => rfl⟩
  have F6 := fun_mk (st := sIsS) l6 c6 k6
  have D6 : Def mg K "is_strewn" f6 _ ["word", "other"] := ⟨PySem.W.mg_of X G a6, k6, F6.binds (ps := ["word", "other"]) fun _ _ _ _ _ _ us hl => match us, hl with | [_, _], _ => rfl⟩
  have F7 := fun_mk (st := sStr) l7 c7 k7
  have D7 : Def mg K "strewn" f7 _ ["letters", "word", "other"] := ⟨PySem.W.mg_of X G a7, k7, F7.binds (ps := ["letters", "word", "other"]) fun _ _ _ _ _ _ us hl => match us, hl with | [_, _, _], _ => rfl⟩
  have F8 := fun_mk (st := sAmong) l8 c8 k8
  have D8 : Def mg K "least_among" f8 _ ["words"] := ⟨PySem.W.mg_of X G a8, k8, F8.binds (ps := ["words"]) fun _ _ _ _ _ _ us hl => match us, hl with | [_], _ => rfl⟩
  have F9 := fun_mk (st := sLeast) l9 c9 k9
  have D9 : Def mg K "least_of" f9 _ ["letters", "words"] := ⟨PySem.W.mg_of X G a9, k9, F9.binds (ps := ["letters", "words"]) fun _ _ _ _ _ _ us hl => match us, hl with | [_, _], _ => rfl⟩
  have F10 := fun_mk (st := sBegun) l10 c10 k10
  have D10 : Def mg K "_law_begun" f10 _ ["script"] := ⟨PySem.W.mg_of X G a10, k10, F10.binds (ps := ["script"]) fun _ _ _ _ _ _ us hl => match us, hl with | [_], _ => rfl⟩
  have F11 := fun_mk (st := sMixed) l11 c11 k11
  have D11 : Def mg K "_law_mixed" f11 _ ["state"] := ⟨PySem.W.mg_of X G a11, k11, F11.binds (ps := ["state"]) fun _ _ _ _ _ _ us hl => match us, hl with | [_], _ => rfl⟩
  have F12 := fun_mk (st := sDraw) l12 c12 k12
  have D12 : Def mg K "_law_draw" f12 _ ["state", "room"] := ⟨PySem.W.mg_of X G a12, k12, F12.binds (ps := ["state", "room"]) fun _ _ _ _ _ _ us hl => match us, hl with | [_, _], _ => rfl⟩
  have F13 := fun_mk (st := sPick) l13 c13 k13
  have D13 : Def mg K "_law_pick" f13 _ ["state", "some"] := ⟨PySem.W.mg_of X G a13, k13, F13.binds (ps := ["state", "some"]) fun _ _ _ _ _ _ us hl => match us, hl with | [_, _], _ => rfl⟩
  have F14 := fun_mk (st := sPlain) l14 c14 k14
  have D14 : Def mg K "_law_plain" f14 _ ["value"] := ⟨PySem.W.mg_of X G a14, k14, F14.binds (ps := ["value"]) fun _ _ _ _ _ _ us hl => match us, hl with | [_], _ => rfl⟩
  have F15 := fun_mk (st := sIs) l15 c15 k15
  have D15 : Def mg K "_law_is" f15 _ ["found", "due"] := ⟨PySem.W.mg_of X G a15, k15, F15.binds (ps := ["found", "due"]) fun _ _ _ _ _ _ us hl => match us, hl with | [_, _], _ => rfl⟩
  have F16 := fun_mk (st := sCaught) l16 c16 k16
  have D16 : Def mg K "_law_caught" f16 _ ["action"] := ⟨PySem.W.mg_of X G a16, k16, F16.binds (ps := ["action"]) fun _ _ _ _ _ _ us hl => match us, hl with | [_], _ => rfl⟩
  have F17 := fun_mk (st := sMoL) l17 c17 k17
  have D17 : Def mg K "_law_mo_letters" f17 _ ["state"] := ⟨PySem.W.mg_of X G a17, k17, F17.binds (ps := ["state"]) fun _ _ _ _ _ _ us hl => match us, hl with | [_], _ => rfl⟩
  have F18 := fun_mk (st := sMoS) l18 c18 k18
  have D18 : Def mg K "_law_mo_strewn" f18 _ ["word", "other"] := ⟨PySem.W.mg_of X G a18, k18, F18.binds (ps := ["word", "other"]) fun _ _ _ _ _ _ us hl => match us, hl with | [_, _], _ => rfl⟩
  have F19 := fun_mk (st := sMoLeast) l19 c19 k19
  have D19 : Def mg K "_law_mo_least" f19 _ ["words"] := ⟨PySem.W.mg_of X G a19, k19, F19.binds (ps := ["words"]) fun _ _ _ _ _ _ us hl => match us, hl with | [_], _ => rfl⟩
  have F20 := fun_mk (st := sOdd) l20 c20 k20
  have D20 : Def mg K "_law_mo_odd_word" f20 _ ["state", "letters"] := ⟨PySem.W.mg_of X G a20, k20, F20.binds (ps := ["state", "letters"]) fun _ _ _ _ _ _ us hl => match us, hl with | [_, _], _ => rfl⟩
  have F3 : FunD K "need_word" "need_word" (defArgs sNeedW) (defBody sNeedW) (defScope sNeedW) [] [("most", .int 20000)] f3 _ := ⟨⟨_, _, _, _, _, _, _, _, _, _, rfl, l3, c3, .inl ⟨rfl, rfl⟩, .inr ⟨Dk, rfl, fun q hq => by cases List.mem_singleton.mp hq; exact ⟨_, kd, ⟨_, rfl⟩⟩⟩⟩, k3⟩
  have D3 : DefW mg K "need_word" f3 _ ["letters", "thing", "most"] := ⟨PySem.W.mg_of X G a3, k3, FunD.binds0 (ps := ["letters", "thing", "most"]) F3 2 (by simp) rfl fun _ _ _ _ _ _ us ks hl h2 => match us, ks, hl, h2 with | [_, _], [_], _, _ => ⟨_, _, _, _, _, _, rfl, rfl, rfl⟩⟩
  have KB : KBinds K (PySem.W.fnOf "least_of" "least_of" (defArgs sLeast) (defBody sLeast) (defScope sLeast) .none kV9 dc9 pm9 an9 cd9 ct9) ["letters", "words"] ["words", "letters"] (fun us ws => us ++ ws.reverse) (fun us ws => us ++ ws.reverse) := by
    refine ⟨fun s us ws _ hl => ?_, fun r1 r2 => r1.append (vals_rev r2)⟩
    rw [List.length_append, List.length_reverse] at hl
    have hl2 : us.length + ws.length = 2 := hl
    rcases us with _ | ⟨u1, _ | ⟨u2, _ | ⟨u3, us⟩⟩⟩ <;> rcases ws with _ | ⟨w1, _ | ⟨w2, _ | ⟨w3, ws⟩⟩⟩ <;> first | (exfalso; simp only [List.length_cons, List.length_nil] at hl2; omega) | exact .of_eq rfl
  have CK : CaughtK K mg f16 := ⟨D16.g, D16.k, _, _, _, _, _, _, _, _, _, l16, c16, D16.b⟩
  have ht : PySem.W.tabIn K "law" = some (cL, Pt) := by
    unfold PySem.W.tabIn
    simp only [a21, l21, PySem.W.fnOf, lT, vT]
  obtain ⟨hc, hp⟩ := PySem.W.tab_of T X hrec ht
  refine ⟨PySem.W.fnOf "law" "law" (defArgs sLaw) (defBody sLaw) (defScope sLaw) .none kV21 dc21 pm21 an21 (.ref cL) ct21, [(cL, Pt)], spLaw K Pt, fun p hpm => ?_, fun p hpm => ?_, fun p hpm => ?_, fun s u => .of_eq rfl, fun H a ns hn _ ht hs => ?_, fun base KX NG TB => ?_⟩
  · cases List.mem_singleton.mp hpm
    exact hp
  · cases List.mem_singleton.mp hpm
    exact nT
  · cases List.mem_singleton.mp hpm
    exact hc
  · exact ⟨a, ns, rfl, hs, hn, ht (cL, Pt) List.mem_cons_self, fun _ => rfl⟩
  · have G0 := ok_isL (P := l.prog) (w := w) (base := base) F0 B
    have G1 := ok_needL (P := l.prog) (w := w) (base := base) F1 G0 D0 EN
    have G2 := ok_isW (P := l.prog) (w := w) (base := base) F2 B
    have G3 := ok_needW (P := l.prog) (w := w) (base := base) F3 G2 D2 EW
    have G4 := ok_ord (P := l.prog) (w := w) (base := base) F4 B
    have G5 := ok_inO (P := l.prog) (w := w) (base := base) F5 B G4 D4
    have G6 := ok_isS (P := l.prog) (w := w) (base := base) F6 B
    have G7 := ok_str (P := l.prog) (w := w) (base := base) F7 G1 D1 G3 D3 G6 D6
    have G8 := ok_among (P := l.prog) (w := w) (base := base) F8 B G6 D6
    have G9 := ok_least (P := l.prog) (w := w) (base := base) F9 B EW G1 D1 G3 D3 G8 D8 G5 D5
    have G10 := ok_begun (P := l.prog) (w := w) (base := base) F10 B
    have G11 := ok_mixed (P := l.prog) (w := w) (base := base) F11 B
    have G12 := ok_draw (P := l.prog) (w := w) (base := base) F12 B G11 D11
    have G13 := ok_pick (P := l.prog) (w := w) (base := base) F13 B G12 D12
    have G14 := ok_plain (P := l.prog) (w := w) (base := base) F14 B D14 3
    have G15 := ok_is (P := l.prog) (w := w) (base := base) F15 B G14 D14
    have G17 := ok_moL (P := l.prog) (w := w) (base := base) F17 G13 D13
    have G18 := ok_moS (P := l.prog) (w := w) (base := base) F18 B
    have G19 := ok_moLeast (P := l.prog) (w := w) (base := base) F19 B G18 D18
    have G20 := ok_odd (P := l.prog) (w := w) (base := base) F20 G13 D13
    exact ok_law l21 c21 B ⟨⟨_, _, D10, G10⟩, ⟨_, _, D17, G17⟩, ⟨_, _, D12, G12⟩, ⟨_, _, D13, G13⟩, ⟨_, _, D19, G19⟩, ⟨_, _, D15, G15⟩, ⟨_, _, D20, G20⟩, ⟨_, _, D9, KB, G9⟩, ⟨_, _, D7, G7⟩⟩ CK (TB (cL, Pt) List.mem_cons_self) mgW mgN (PySem.W.mg_of X G aS) SN SW
end SWL
set_option Elab.async false
set_option linter.all false
set_option maxRecDepth 100000
open PySem PySem.W PyProof.Rows
set_option maxHeartbeats 0 in
theorem PySem.Challenge.cw_swinglogic_k18_whole_least_of_words_holds : PySem.Challenge.rw_swinglogic_k18_whole_least_of_words.Holds := by
  w_on; o_law; k_head; (case hw => w_witness2)
  k_fill
  refine SWL.walk_ofG (l := PySem.Challenge.rw_swinglogic_k18_whole_least_of_words) (n := 63) (k := 8) (x := "script") rfl (by decide) rfl ⟨rfl, by decide, by decide⟩ (fun w h Y => PySem.W.km_in_of Y) ?F
  case F =>
    intro w mg fa h loose mean mb T Y KX G hmg
    refine' SWL.all_mk KX G T hmg ?hrec ?a0 ?l0 ?c0 ?k0 ?a1 ?l1 ?c1 ?k1 ?a2 ?l2 ?c2 ?k2 ?a3 ?l3 ?c3 ?k3 ?a4 ?l4 ?c4 ?k4 ?a5 ?l5 ?c5 ?k5 ?a6 ?l6 ?c6 ?k6 ?a7 ?l7 ?c7 ?k7 ?a8 ?l8 ?c8 ?k8 ?a9 ?l9 ?c9 ?k9 ?a10 ?l10 ?c10 ?k10 ?a11 ?l11 ?c11 ?k11 ?a12 ?l12 ?c12 ?k12 ?a13 ?l13 ?c13 ?k13 ?a14 ?l14 ?c14 ?k14 ?a15 ?l15 ?c15 ?k15 ?a16 ?l16 ?c16 ?k16 ?a17 ?l17 ?c17 ?k17 ?a18 ?l18 ?c18 ?k18 ?a19 ?l19 ?c19 ?k19 ?a20 ?l20 ?c20 ?k20 ?a21 ?l21 ?c21 ?k21 ?kd ?zs ?zl ?z_isinstance ?z_str ?z_int ?z_list ?z_tuple ?z_dict ?z_len ?z_all ?z_any ?z_zip ?z_sorted ?z_abs ?z_range ?z_min ?z_repr ?lT ?vT ?nT ?aS ?bS ?tS2 ?iS ?aN ?xN ?kkN ?bN ?tN ?sN ?gN ?hN ?dN ?ccN ?mN ?aW ?xW ?kkW ?bW ?tW ?sW ?gW ?hW ?dW ?ccW ?mW ?sp0 ?tk0
    (case hrec => first | rfl | kernel_rfl)
    (case a0 => k_is)
    (case l0 => k_is)
    (case c0 => k_is)
    (case k0 => k_is)
    (case a1 => k_is)
    (case l1 => k_is)
    (case c1 => k_is)
    (case k1 => k_is)
    (case a2 => k_is)
    (case l2 => k_is)
    (case c2 => k_is)
    (case k2 => k_is)
    (case a3 => k_is)
    (case l3 => k_is)
    (case c3 => k_is)
    (case k3 => k_is)
    (case a4 => k_is)
    (case l4 => k_is)
    (case c4 => k_is)
    (case k4 => k_is)
    (case a5 => k_is)
    (case l5 => k_is)
    (case c5 => k_is)
    (case k5 => k_is)
    (case a6 => k_is)
    (case l6 => k_is)
    (case c6 => k_is)
    (case k6 => k_is)
    (case a7 => k_is)
    (case l7 => k_is)
    (case c7 => k_is)
    (case k7 => k_is)
    (case a8 => k_is)
    (case l8 => k_is)
    (case c8 => k_is)
    (case k8 => k_is)
    (case a9 => k_is)
    (case l9 => k_is)
    (case c9 => k_is)
    (case k9 => k_is)
    (case a10 => k_is)
    (case l10 => k_is)
    (case c10 => k_is)
    (case k10 => k_is)
    (case a11 => k_is)
    (case l11 => k_is)
    (case c11 => k_is)
    (case k11 => k_is)
    (case a12 => k_is)
    (case l12 => k_is)
    (case c12 => k_is)
    (case k12 => k_is)
    (case a13 => k_is)
    (case l13 => k_is)
    (case c13 => k_is)
    (case k13 => k_is)
    (case a14 => k_is)
    (case l14 => k_is)
    (case c14 => k_is)
    (case k14 => k_is)
    (case a15 => k_is)
    (case l15 => k_is)
    (case c15 => k_is)
    (case k15 => k_is)
    (case a16 => k_is)
    (case l16 => k_is)
    (case c16 => k_is)
    (case k16 => k_is)
    (case a17 => k_is)
    (case l17 => k_is)
    (case c17 => k_is)
    (case k17 => k_is)
    (case a18 => k_is)
    (case l18 => k_is)
    (case c18 => k_is)
    (case k18 => k_is)
    (case a19 => k_is)
    (case l19 => k_is)
    (case c19 => k_is)
    (case k19 => k_is)
    (case a20 => k_is)
    (case l20 => k_is)
    (case c20 => k_is)
    (case k20 => k_is)
    (case a21 => k_is)
    (case l21 => k_is)
    (case c21 => k_is)
    (case k21 => k_is)
    (case kd => k_is)
    (case zs => k_is)
    (case zl => k_is)
    (case z_isinstance => k_is)
    (case z_str => k_is)
    (case z_int => k_is)
    (case z_list => k_is)
    (case z_tuple => k_is)
    (case z_dict => k_is)
    (case z_len => k_is)
    (case z_all => k_is)
    (case z_any => k_is)
    (case z_zip => k_is)
    (case z_sorted => k_is)
    (case z_abs => k_is)
    (case z_range => k_is)
    (case z_min => k_is)
    (case z_repr => k_is)
    (case lT => k_is)
    (case vT => first | rfl | k_is)
    (case nT => first | kernel_rfl | rfl)
    (case aS => k_is)
    (case bS => k_is)
    (case tS2 => k_is)
    (case iS => k_is)
    (case aN => k_is)
    (case xN => k_exc)
    (case kkN => k_is)
    (case bN => k_is)
    (case tN => k_is)
    (case sN => k_is)
    (case gN => k_is)
    (case hN => k_is)
    (case dN => k_is)
    (case ccN => k_is)
    (case mN => k_is)
    (case aW => k_is)
    (case xW => k_exc)
    (case kkW => k_is)
    (case bW => k_is)
    (case tW => k_is)
    (case sW => k_is)
    (case gW => k_is)
    (case hW => k_is)
    (case dW => k_is)
    (case ccW => k_is)
    (case mW => k_is)
    (case sp0 => k_is)
    (case tk0 => k_is)
