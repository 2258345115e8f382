import PyProof.Rows.All
import Wide.All
import OpenK.AllK
import Wide.FinOn
import HandS.ForMost
import HandS.TupAny
import KE.GoesEnum
import HandS.TupMul
import HandS.Style
import HandS.Conv
import HandS.Walk
import HandS.Deep
import HandS.SetFor
import HandS.Star
import KE.KStar
import PyProof.ReprLen
import PySem.Challenge.RW_lyingwire_k09_widths
set_option Elab.async false
set_option maxRecDepth 100000
set_option maxHeartbeats 4000000
/-! walks that hand out new tuples: enumerate and zip over lists and tuples, in any mix. -/
namespace L3
open PySem PySem.Spec PyProof.Rows L2
abbrev St := L2.St
/-- n turns, each handing out a new tuple of values; the source is what G says -/
def Itu (n : Nat) (G : Hp → Prop) (Y : Nat → List V → Prop) : It :=
  ⟨fun i H => i < n ∧ G H, fun i H v H' => ∃ T vs, v = .ref T ∧ H T = none ∧ H' = upd H T (.tup vs) ∧ Y i vs, fun i H => i = n ∧ G H⟩

theorem turn_of {P : Program} {w : World} {K : PySem.W.Frag} {elts : List Expr} {kk : Nat} {tpos : Pos} {e : Addr} {fp wr : List Addr} {n : Nat} {G : Hp → Prop} {Y : Nat → List V → Prop} {S : Nat → Heap → Prop}
    (hmem : e ∈ fp) (hwr : ∀ b ∈ wr, b ∈ fp) (hobj : ∀ i h, S i h → ∀ b ∈ fp, ∃ o, h.get? b = some o ∧ ∀ v, o.data ≠ .cell v)
    (hkeep : ∀ i h h', S i h → (∀ b ∈ fp, ∀ o, h.get? b = some o → h'.get? b = some o) → S i h')
    (hself : ∀ (A : Around) (i : Nat) (s : Shared) (Q : Value → Shared → Prop) (E : Value → Shared → Prop), S i s.heap → Q (.ref e) s → wpAny (model P w) A (pyIter (.ref e)) Q E s)
    (hC : ∀ (X : Cx) pins σ H s, X.prog = P → X.w = w → X.K = K → X.calm = true → Inv X pins σ H s → G H → ∃ (fq : List Addr) (Pt : Nat → Array Value → Prop) (Mid : Nat → Addr → Heap → Prop) (C : Heap → Prop),
      WalksT P w X.A e fq wr n Pt (fun i h => S i h ∧ C h) Mid ∧ C s.heap ∧ ∀ i vals, Pt i vals → ∃ vs, Vals vs vals.toList ∧ Y i vs ∧ vs.length ≤ sizeLine) :
    Turn P w K (.Tuple elts kk tpos) (Itu n G Y) fp e S where
  mem := hmem
  obj := hobj
  keep := hkeep
  item := by
    intro X hP hw hK hc i pins s σ H E I hf st hg
    obtain ⟨hi, g⟩ := hg
    obtain ⟨fq, Pt, Mid, C, W, c, hY⟩ := hC X pins σ H s hP hw hK hc I g
    subst hP hw hK
    refine W.item i s _ E hi ⟨st, c⟩ fun T vals h1 tk hPt hT hTup hmid hk => ?_
    refine ⟨_, rfl, W.go elts kk tpos i T _ _ _ hmid fun h2 st2 hk2 => ?_⟩
    obtain ⟨vs, rv, y, hl⟩ := hY i vals hPt
    have hT2 : h2.IsTuple T vals := hTup.at fun o q => hk2 T o (W.apart i T h1 hmid) q
    have new : ObjOk X.prog X.w (upd H T (.tup vs)) h2 T (.tup vs) := ⟨hl, vals.toList, rv, hT2⟩
    have I1 : Inv X pins σ (upd H T (.tup vs)) { s with heap := h2, toks := tk } :=
      I.turnedNew (ch := wr) (fun b ob hb q => hk2 b ob hb (hk b ob hb q)) (fun b hb => hf b (hwr b hb)) hT new
    refine ⟨.ref T, _, I1, rfl, ⟨T, vs, rfl, I.hok.fresh hT, rfl, y⟩, st2.1, fun b hb => ?_⟩
    obtain ⟨o, ho, _⟩ := hobj i s.heap st b hb
    rw [upd_ne (Nat.ne_of_lt (Nat.lt_of_lt_of_le (Heap.lt_size ho) hT))]
    exact (hf b hb).1
  done := by
    intro X hP hw hK hc i pins s σ H E I hf st hg
    obtain ⟨rfl, g⟩ := hg
    obtain ⟨fq, Pt, Mid, C, W, c, hY⟩ := hC X pins σ H s hP hw hK hc I g
    subst hP hw hK
    exact W.done s _ E ⟨st, c⟩ fun h1 tk hk => ⟨rfl, I.turnedL (ch := wr) hk fun b hb => hf b (hwr b hb)⟩
  self := hself

/-- a list or a tuple of the values xs stands at a -/
def Sq (K : PySem.W.Frag) (H : Hp) (a : Addr) (xs : List V) : Prop := SqL K H a xs ∨ SqT K H a xs
/-- a list or a tuple as a source of an iterator -/
structure Kd (K : PySem.W.Frag) (a : Addr) (xs : List V) where
  o : Obj
  S : Nat → Addr → Heap → Prop
  C : List Value → Heap → Prop
  G : Hp → Prop
  begins : ∀ its : List Value, Begins (.ref a) o (C its)
  start : ∀ h it, h.get? it = some o → S 0 it h
  draws : ∀ (prog : Program) (w : World) (A : Around) (it : Addr) (its : List Value), A.handled = none → a ≠ it → Draws prog w A it [it, a] its.length (fun i v => its[i]? = some v) (fun i h => S i it h ∧ C its h)
  live : ∀ i it h, S i it h → ∃ u, h.get? it = some u ∧ ∀ v, u.data ≠ .cell v
  keep : ∀ i it h h', S i it h → (∀ u, h.get? it = some u → h'.get? it = some u) → S i it h'
  cont : ∀ (X : Cx) pins σ H s, X.K = K → Inv X pins σ H s → G H → ∃ its, Vals xs its ∧ C its s.heap ∧ a < s.heap.objs.size
def kdL (K : PySem.W.Frag) (a : Addr) (xs : List V) : Kd K a xs where
  o := { cls := .type "list_iterator", data := .fields #[.ref a, .int 0 0] }
  S := fun i it h => h.IsListIter it a i
  C := fun its h => h.IsList a its.toArray
  G := fun H => SqL K H a xs
  begins := fun its => begins_list a its.toArray
  start := fun h it e => ⟨_, e, rfl, rfl⟩
  draws := fun prog w A it its hh hne => by
    have D := Draws.list (prog := prog) (w := w) (A := A) hh it a hne its.toArray
    simpa using D
  live := fun i it h st => let ⟨u, hu, _, hd⟩ := st; ⟨u, hu, fun v q => by rw [hd] at q; cases q⟩
  keep := fun i it h h' st k => st.at k
  cont := fun X pins σ H s hK I g => by
    subst hK
    obtain ⟨its, rv, p, _⟩ := I.list g
    exact ⟨its, rv, p.isList, p.lt⟩
def kdT (K : PySem.W.Frag) (a : Addr) (xs : List V) : Kd K a xs where
  o := { cls := .type "tuple_iterator", data := .fields #[.ref a, .int 0 0] }
  S := fun i it h => h.IsTupleIter it a i
  C := fun its h => h.IsTuple a its.toArray
  G := fun H => SqT K H a xs
  begins := fun its => begins_tuple a its.toArray
  start := fun h it e => ⟨_, e, rfl, rfl⟩
  draws := fun prog w A it its hh hne => by
    have D := Draws.tuple (prog := prog) (w := w) (A := A) hh it a hne its.toArray
    simpa using D
  live := fun i it h st => let ⟨u, hu, _, hd⟩ := st; ⟨u, hu, fun v q => by rw [hd] at q; cases q⟩
  keep := fun i it h h' st k => st.at k
  cont := fun X pins σ H s hK I g => by
    subst hK
    obtain ⟨its, rv, p, _⟩ := I.tuple g
    exact ⟨its, rv, p, p.lt⟩
theorem Sq.kd {K : PySem.W.Frag} {H : Hp} {a : Addr} {xs : List V} (h : Sq K H a xs) : ∃ kd : Kd K a xs, kd.G H ∧ ∀ H', kd.G H' → Sq K H' a xs := by
  rcases h with h | h
  · exact ⟨kdL K a xs, h, fun _ g => .inl g⟩
  · exact ⟨kdT K a xs, h, fun _ g => .inr g⟩

set_option maxHeartbeats 1000000 in
theorem meets_enum1 {v : Value} {o : Obj} {H : Heap → Prop} (B : Begins v o H) :
    Meets (Builtin.«enumerate.__new__» ⟨[.type "enumerate", v], []⟩) (fun _ R s => H s.heap ∧
      R (.ok (.ret (.ref (s.heap.push o).objs.size))) { s with heap := (s.heap.push o).push { cls := .type "enumerate", data := .fields #[.none, .bool false, .ref s.heap.objs.size, rawInt 0, .none, .none] } }) :=
  .of_wp fun prog w A R s hh => by
    obtain ⟨hp, g, d, tk, os⟩ := s
    obtain ⟨h1, hR⟩ := hh
    have hsub := sub_enumerate
    have it1 : ∀ {A' : Around} {E : Value → Shared → Prop} {Q : Value → Shared → Prop}, Q (.ref hp.objs.size) ⟨hp.push o, g, d, tk, os⟩ → wpAny (model prog w) A' (pyIter v) Q E ⟨hp, g, d, tk, os⟩ :=
      fun q => B.iter prog w _ _ ⟨hp, g, d, tk, os⟩ _ h1 q
    wp_walk using it1
    refine wpAny_stack_any fun stk => wpAny_pure ?_
    split
    · rename_i c _ _ _ _ _
      cases (c == Value.type "enumerate") <;> (wp_walk using it1; exact ⟨_, rfl, hR⟩)
    · wp_walk using it1
      exact ⟨_, rfl, hR⟩
theorem enum1_begins {prog : Program} {w : World} {A : Around} {E : Value → Shared → Prop} {s : Shared} {v : Value} {o : Obj} {H : Heap → Prop} {Q : Value → Shared → Prop} (B : Begins v o H) (h1 : H s.heap)
    (h : ∀ h', IsEnum h' (s.heap.objs.size + 1) s.heap.objs.size 0 .none → h'.get? s.heap.objs.size = some o → h'.objs.size = s.heap.objs.size + 2 →
      (∀ b u, s.heap.get? b = some u → h'.get? b = some u) → Q (.ref (s.heap.objs.size + 1)) { s with heap := h' }) :
    wpAny (model prog w) A (call (.type "enumerate") [v]) Q E s := by
  refine callType_new F.called_enumerate (by decide) (F.typeCall_enumerate_1 _) (F.newCall_enumerate_1 _) (fun obj => F.args_object_init_2 obj _) F.entry_enumerate_new (meets_enum1 B) ⟨h1, ?_⟩
  have hz : (s.heap.push o).objs.size = s.heap.objs.size + 1 := Heap.size_push ..
  show _ ∧ _
  rw [hz]
  have he := Heap.get?_push_size (s.heap.push o) (o := { cls := .type "enumerate", data := .fields #[.none, .bool false, .ref s.heap.objs.size, rawInt 0, .none, .none] }) rfl
  rw [hz] at he
  exact ⟨⟨_, he, rfl⟩, h _ he (Heap.get?_push_of_some _ (Heap.get?_push_size _ B.free)) (by rw [Heap.size_push, hz]) fun b u x => Heap.get?_push_of_some _ (Heap.get?_push_of_some _ x)⟩

/-- for .. in enumerate(a list or a tuple) -/
def YEnum (xs : List V) : Nat → List V → Prop := fun i us => ∃ x, xs[i]? = some x ∧ us = [.int (i : Nat), x]
def iEnumS (K : PySem.W.Frag) (ta : TA) : TI := fun σ H R => ta σ H fun vs H1 => ∃ a xs, vs = [.ref a] ∧
  ((SqL K H1 a xs ∧ R (Itu xs.length (fun H => SqL K H a xs) (YEnum xs)) H1) ∨ (SqT K H1 a xs ∧ R (Itu xs.length (fun H => SqT K H a xs) (YEnum xs)) H1))
theorem pi_enumS {X : Cx} {e : Expr} {ta : TA} {p pos tpos : Pos} {elts : List Expr} {kk : Nat} (hg : Gl X "enumerate") (hm : X.mg "enumerate" = none) (ha : PA X [e] ta) (hs : starEach [e] X.env = [(false, eval e X.env)] := by rfl) :
    PI X (.Tuple elts kk tpos) (.Call (.Name "enumerate" p) [e] [] pos) (iEnumS X.K ta) := by
  refine ⟨fun pins s σ H R I h => ?_⟩
  refine Call_ (ld_blt I hg hm boot_enumerate (PyProof.Rows.callWith_type1 (thn (ha.run pos pins s σ H _ I h) fun us s1 ⟨vs, H1, I1, r1, q1⟩ => ?_) hs rfl))
  obtain ⟨a, xs, ex, hq⟩ := q1
  subst ex
  cases r1 with
  | cons r rr =>
    cases rr
    cases r
    have go : ∀ kd : Kd X.K a xs, kd.G H1 → R (Itu xs.length kd.G (YEnum xs)) H1 →
        wpAny (model X.prog X.w) X.A (call (.type "enumerate") [.ref a]) (fun v s1 => wpAny (model X.prog X.w) X.A (pyIter v) (PIE X pins σ (.Tuple elts kk tpos) R) X.xe s1) X.xe s1 := by
      intro kd g q
      obtain ⟨its, rv, hc, hlt⟩ := kd.cont X pins σ H1 s1 rfl I1 g
      refine enum1_begins (kd.begins its) hc fun h1 he hit hsz hk => wpAny_pyIter_enum he ?_
      have I2 : Inv X pins σ H1 { s1 with heap := h1 } := I1.kept (t' := s1.toks) hk
      refine ⟨s1.heap.objs.size + 1, [s1.heap.objs.size + 1, s1.heap.objs.size], fun i h => (∃ old, IsEnum h (s1.heap.objs.size + 1) s1.heap.objs.size (0 + (i : Int)) old) ∧ kd.S i s1.heap.objs.size h, _, H1, rfl, I2,
        turn_of (wr := [s1.heap.objs.size + 1, s1.heap.objs.size]) (by simp) (fun b hb => hb) (fun i h st b hb => ?_) (fun i h h' st k => ?_) (fun A i s Q E st hQ => ?_) (fun Y pins' σ' H' s' hP hw hK hcalm I' g' => ?_),
        ⟨⟨.none, he⟩, kd.start _ _ hit⟩, fun b hb => ?_, q⟩
      · obtain ⟨⟨old, he'⟩, st'⟩ := st
        have e' : b = s1.heap.objs.size + 1 ∨ b = s1.heap.objs.size := by simpa using hb
        rcases e' with z | z
        · rw [z]; exact ⟨_, he', fun v q => nomatch q⟩
        · rw [z]; exact kd.live i _ h st'
      · obtain ⟨⟨old, he'⟩, st'⟩ := st
        exact ⟨⟨old, k _ (by simp) _ he'⟩, kd.keep i _ h h' st' fun u hu => k _ (by simp) u hu⟩
      · obtain ⟨⟨old, he'⟩, _⟩ := st
        exact wpAny_pyIter_enum he' hQ
      · obtain ⟨its', rv', hc', hlt'⟩ := kd.cont Y pins' σ' H' s' hK I' g'
        have ne1 : a ≠ s1.heap.objs.size := Nat.ne_of_lt hlt
        have D := kd.draws Y.prog Y.w Y.A.in1 s1.heap.objs.size its' (I'.ok.hd hcalm) ne1
        have W := WalksT.enumFrom (A := Y.A) 0 D (s1.heap.objs.size + 1) (Nat.succ_ne_self _) (fun hm => by
          have e' : s1.heap.objs.size + 1 = s1.heap.objs.size ∨ s1.heap.objs.size + 1 = a := by simpa using hm
          rcases e' with z | z
          · exact absurd z (Nat.succ_ne_self _)
          · rw [← z] at hlt; exact absurd (Nat.lt_trans (Nat.lt_succ_self _) hlt) (Nat.lt_irrefl _)) (by simp)
        rw [hP, hw] at W
        have e : (fun (i : Nat) (h : Heap) => (∃ old, IsEnum h (s1.heap.objs.size + 1) s1.heap.objs.size (0 + (i : Int)) old) ∧ kd.S i s1.heap.objs.size h ∧ kd.C its' h) = fun (i : Nat) (h : Heap) => ((∃ old, IsEnum h (s1.heap.objs.size + 1) s1.heap.objs.size (0 + (i : Int)) old) ∧ kd.S i s1.heap.objs.size h) ∧ kd.C its' h := by
          funext i h; rw [and_assoc]
        rw [e, ← rv'.length] at W
        refine ⟨_, _, _, kd.C its', W, hc', ?_⟩
        · rintro i vals ⟨t, x, hx, rfl⟩
          have hx' : its'[i]? = some x := hx
          have hl : i < xs.length := by rw [rv'.length]; exact (List.getElem?_eq_some_iff.mp hx').1
          obtain ⟨u, hu, ru⟩ := rv'.get (List.getElem?_eq_getElem hl)
          rw [hx'] at hu
          cases hu
          refine ⟨[.int (i : Nat), xs[i]], .cons ⟨t, ?_⟩ (.cons ru .nil), ⟨_, List.getElem?_eq_getElem hl, rfl⟩, by show 2 ≤ sizeLine; decide⟩
          rw [Int.zero_add]
      · have e' : b = s1.heap.objs.size + 1 ∨ b = s1.heap.objs.size := by simpa using hb
        have hle : s1.heap.objs.size ≤ b := by
          rcases e' with z | z
          · rw [z]; exact Nat.le_add_right _ _
          · rw [z]; exact Nat.le_refl _
        exact I1.fpOk hle (I1.hok.fresh hle)
    rcases hq with ⟨g, q⟩ | ⟨g, q⟩
    · exact go (kdL X.K a xs) g q
    · exact go (kdT X.K a xs) g q

/-- zip of two lists or tuples, in any mix -/
def YZip (xs ys : List V) : Nat → List V → Prop := fun i us => ∃ x y, xs[i]? = some x ∧ ys[i]? = some y ∧ us = [x, y]
def iZipS (K : PySem.W.Frag) (ta : TA) : TI := fun σ H R => ta σ H fun vs H1 => ∃ a b xs ys, vs = [.ref a, .ref b] ∧
  ((SqL K H1 a xs ∧ SqL K H1 b ys ∧ R (Itu (min xs.length ys.length) (fun H => SqL K H a xs ∧ SqL K H b ys) (YZip xs ys)) H1) ∨
   (SqL K H1 a xs ∧ SqT K H1 b ys ∧ R (Itu (min xs.length ys.length) (fun H => SqL K H a xs ∧ SqT K H b ys) (YZip xs ys)) H1) ∨
   (SqT K H1 a xs ∧ SqL K H1 b ys ∧ R (Itu (min xs.length ys.length) (fun H => SqT K H a xs ∧ SqL K H b ys) (YZip xs ys)) H1) ∨
   (SqT K H1 a xs ∧ SqT K H1 b ys ∧ R (Itu (min xs.length ys.length) (fun H => SqT K H a xs ∧ SqT K H b ys) (YZip xs ys)) H1))
theorem pi_zipS {X : Cx} {e e2 : Expr} {ta : TA} {p pos tpos : Pos} {elts : List Expr} {kk : Nat} (hg : Gl X "zip") (hm : X.mg "zip" = none) (ha : PA X [e, e2] ta)
    (hs : starEach [e, e2] X.env = (false, eval e X.env) :: starEach [e2] X.env := by rfl) (hpl : (backTo pos (starEach [e2] X.env)).any (·.1) = false := by rfl) :
    PI X (.Tuple elts kk tpos) (.Call (.Name "zip" p) [e, e2] [] pos) (iZipS X.K ta) := by
  refine ⟨fun pins s σ H R I h => ?_⟩
  refine Call_ (ld_blt I hg hm PyProof.Rows.boot_zip (PyProof.Rows.callWith_type1 (thn (ha.run pos pins s σ H _ I h) fun us s1 ⟨vs, H1, I1, r1, q1⟩ => ?_) hs hpl))
  obtain ⟨a, b, xs, ys, ex, hq⟩ := q1
  subst ex
  cases r1 with
  | cons r rr =>
    cases rr with
    | cons r' rr =>
      cases rr
      cases r
      cases r'
      have go : ∀ (kd : Kd X.K a xs) (kf : Kd X.K b ys), kd.G H1 → kf.G H1 → R (Itu (min xs.length ys.length) (fun H => kd.G H ∧ kf.G H) (YZip xs ys)) H1 →
          wpAny (model X.prog X.w) X.A (call (.type "zip") [.ref a, .ref b]) (fun v s1 => wpAny (model X.prog X.w) X.A (pyIter v) (PIE X pins σ (.Tuple elts kk tpos) R) X.xe s1) X.xe s1 := by
        intro kd kf g gf q
        obtain ⟨its, rv, hc, hlt⟩ := kd.cont X pins σ H1 s1 rfl I1 g
        obtain ⟨itf, rvf, hcf, hltf⟩ := kf.cont X pins σ H1 s1 rfl I1 gf
        refine zip_begins2 (kd.begins its) (kf.begins itf) hc hcf fun h1 hz hTI hTO hi1 hi2 hsz hk => wpAny_pyIter_zip hz ?_
        have I2 : Inv X pins σ H1 { s1 with heap := h1 } := I1.kept (t' := s1.toks) hk
        generalize hN : s1.heap.objs.size = N at *
        refine ⟨N + 4, [N + 4, N + 2, N + 3, N, N + 1], fun i h => IsZip h (N + 4) (N + 2) (N + 3) .none ∧ IsTupOf2 h (N + 2) (.ref N) (.ref (N + 1)) ∧ (∃ a1 a2, IsTupOf2 h (N + 3) a1 a2) ∧ kd.S i N h ∧ kf.S i (N + 1) h, _, H1, rfl, I2,
          turn_of (wr := [N + 4, N + 3, N, N + 1]) (by simp) (fun c hcm => ?_) (fun i h st c hcm => ?_) (fun i h h' st k => ?_) (fun A i s Q E st hQ => ?_) (fun Y pins' σ' H' s' hP hw hK hcalm I' g' => ?_),
          ⟨hz, hTI, ⟨_, _, hTO⟩, kd.start _ _ hi1, kf.start _ _ hi2⟩, fun c hcm => ?_, q⟩
        · have e' : c = N + 4 ∨ c = N + 3 ∨ c = N ∨ c = N + 1 := by simpa using hcm
          rcases e' with z | z | z | z <;> rw [z] <;> simp
        · obtain ⟨z1, z2, ⟨a1, a2, z3⟩, z4, z5⟩ := st
          have e' : c = N + 4 ∨ c = N + 2 ∨ c = N + 3 ∨ c = N ∨ c = N + 1 := by simpa using hcm
          rcases e' with z | z | z | z | z
          · rw [z]; exact ⟨_, z1, fun v q => nomatch q⟩
          · rw [z]; exact ⟨_, z2, fun v q => nomatch q⟩
          · rw [z]; exact ⟨_, z3, fun v q => nomatch q⟩
          · rw [z]; exact kd.live i _ h z4
          · rw [z]; exact kf.live i _ h z5
        · obtain ⟨z1, z2, ⟨a1, a2, z3⟩, z4, z5⟩ := st
          exact ⟨k _ (by simp) _ z1, k _ (by simp) _ z2, ⟨a1, a2, k _ (by simp) _ z3⟩, kd.keep i _ h h' z4 fun u hu => k _ (by simp) u hu, kf.keep i _ h h' z5 fun u hu => k _ (by simp) u hu⟩
        · exact wpAny_pyIter_zip st.1 hQ
        · obtain ⟨ga, gb⟩ := g'
          obtain ⟨its', rv', hc', hlt'⟩ := kd.cont Y pins' σ' H' s' hK I' ga
          obtain ⟨itf', rvf', hcf', hltf'⟩ := kf.cont Y pins' σ' H' s' hK I' gb
          have D := kd.draws Y.prog Y.w Y.A.in1 N its' (I'.ok.hd hcalm) (Nat.ne_of_lt hlt)
          have Df := kf.draws Y.prog Y.w Y.A.in1 (N + 1) itf' (I'.ok.hd hcalm) (Nat.ne_of_lt (Nat.lt_succ_of_lt hltf))
          have W := WalksT.zipD2 (A := Y.A) (zip_sep2 (N := N) (fp1 := [a]) (fp2 := [b]) (fun c hcm => by rw [List.mem_singleton.mp hcm]; exact hlt) (fun c hcm => by rw [List.mem_singleton.mp hcm]; exact hltf)) D Df
          rw [hP, hw] at W
          have e : (fun (i : Nat) (h : Heap) => IsZip h (N + 4) (N + 2) (N + 3) .none ∧ IsTupOf2 h (N + 2) (.ref N) (.ref (N + 1)) ∧ (∃ a1 a2, IsTupOf2 h (N + 3) a1 a2) ∧ (kd.S i N h ∧ kd.C its' h) ∧ (kf.S i (N + 1) h ∧ kf.C itf' h)) =
              fun i h => (IsZip h (N + 4) (N + 2) (N + 3) .none ∧ IsTupOf2 h (N + 2) (.ref N) (.ref (N + 1)) ∧ (∃ a1 a2, IsTupOf2 h (N + 3) a1 a2) ∧ kd.S i N h ∧ kf.S i (N + 1) h) ∧ kd.C its' h ∧ kf.C itf' h := by
            funext i h
            apply propext
            constructor
            · rintro ⟨z1, z2, z3, ⟨z4, z5⟩, z6, z7⟩
              exact ⟨⟨z1, z2, z3, z4, z6⟩, z5, z7⟩
            · rintro ⟨⟨z1, z2, z3, z4, z6⟩, z5, z7⟩
              exact ⟨z1, z2, z3, ⟨z4, z5⟩, z6, z7⟩
          rw [e, ← rv'.length, ← rvf'.length] at W
          refine ⟨_, _, _, fun h => kd.C its' h ∧ kf.C itf' h, W, ⟨hc', hcf'⟩, ?_⟩
          · rintro i vals ⟨x, y, hx, hy, rfl⟩
            have hx' : its'[i]? = some x := hx
            have hy' : itf'[i]? = some y := hy
            have hl : i < xs.length := by rw [rv'.length]; exact (List.getElem?_eq_some_iff.mp hx').1
            have hl2 : i < ys.length := by rw [rvf'.length]; exact (List.getElem?_eq_some_iff.mp hy').1
            obtain ⟨u, hu, ru⟩ := rv'.get (List.getElem?_eq_getElem hl)
            obtain ⟨u2, hu2, ru2⟩ := rvf'.get (List.getElem?_eq_getElem hl2)
            rw [hx'] at hu
            rw [hy'] at hu2
            cases hu
            cases hu2
            exact ⟨[xs[i], ys[i]], .cons ru (.cons ru2 .nil), ⟨_, _, List.getElem?_eq_getElem hl, List.getElem?_eq_getElem hl2, rfl⟩, by show 2 ≤ sizeLine; decide⟩
        · have e' : c = N + 4 ∨ c = N + 2 ∨ c = N + 3 ∨ c = N ∨ c = N + 1 := by simpa using hcm
          have hle : s1.heap.objs.size ≤ c := by
            rw [hN]
            rcases e' with z | z | z | z | z <;> rw [z] <;> first | exact Nat.le_add_right _ _ | exact Nat.le_refl _
          exact I1.fpOk hle (I1.hok.fresh hle)
      rcases hq with ⟨g, gf, q⟩ | ⟨g, gf, q⟩ | ⟨g, gf, q⟩ | ⟨g, gf, q⟩
      · exact go (kdL X.K a xs) (kdL X.K b ys) g gf q
      · exact go (kdL X.K a xs) (kdT X.K b ys) g gf q
      · exact go (kdT X.K a xs) (kdL X.K b ys) g gf q
      · exact go (kdT X.K a xs) (kdT X.K b ys) g gf q
end L3

/-! repr of data; defs called where no repr is under way. -/
namespace L3
open PySem PySem.Spec PyProof.Rows L2
section
variable {prog : Program} {w : World} {A : Around} {E : Value → Shared → Prop} {s : Shared}
/-- repr(v), v told by what it reads as -/
theorem repr_reads : ∀ {v : Value} {d : PyData} {as : List Addr} {Q : Value → Shared → Prop}, Reads s.heap v d as → d.hasDict = false → d.showable = true → A.guards = some [] → A.units + 1 + d.depth < cLine → d.shown.length ≤ sizeLine →
    (∀ h' tk u, (∀ b o, s.heap.get? b = some o → h'.get? b = some o) → Q (.str d.shown u) { s with heap := h', toks := tk }) → wpAny (model prog w) A (call (.builtin "repr") [v]) Q E s
  | _, _, _, Q, .none, _, _, _, _, _, hQ => PySem.P.repr_of_none (by simpa only [PyData.shown] using hQ s.heap _ _ fun _ _ e => e)
  | _, _, _, Q, .bool b, _, _, _, _, _, hQ => PySem.P.repr_of_bool (by simpa only [PyData.shown] using hQ s.heap _ _ fun _ _ e => e)
  | _, _, _, Q, .int i t, _, hs, _, _, _, hQ => PySem.P.repr_of_int (by simpa [PyData.showable] using hs) (by simpa only [PyData.shown] using hQ s.heap _ _ fun _ _ e => e)
  | _, _, _, Q, .str x t, _, _, _, _, hz, hQ => PySem.P.repr_of_str (by simpa only [PyData.shown] using hQ s.heap _ _ fun _ _ e => e) (by simpa only [PyData.shown] using hz)
  | _, _, _, Q, .list (a := a) (vs := vs) (xs := xs) h1 h2 h3 h4, hd, hs, hg, hu, hz, hQ => by
    have hz2 : (listText (PyData.shownAll xs)).length ≤ sizeLine := by simpa only [PyData.shown] using hz
    have hd2 : PyData.hasDictAll xs = false := by simpa only [PyData.hasDict] using hd
    obtain ⟨bs, hb, hk⟩ := ReprAllK.of_readsAll (prog := prog) (w := w) h4 (by simpa [PyData.showable] using hs) (fun hx => by rw [hd2] at hx; cases hx) (fun t ht => Nat.le_trans (listText_mem_le ht) hz2)
    have r : Reads s.heap (.ref a) (.list xs) _ := .list h1 h2 h3 h4
    have hna : a ∉ bs := not_mem_of_deeper r (by simp only [PyData.depth]; omega) hb
    simp only [PyData.depth] at hu
    simp only [PyData.shown] at hQ
    have hTy : s.TypeIs (.ref a) "list" := ⟨_, h1, h2⟩
    refine PySem.call_repr_slot (by omega) hTy F.slot_list_repr.toG ?_
    obtain ⟨l⟩ := vs
    cases l with
    | nil =>
      have h5 : ReadsAll s.heap [] xs _ := h4
      cases h5
      simp only [PyData.shownAll, listText_nil] at hQ
      exact call_list_repr_empty hTy h1 h3 ⟨_, _, rfl, hQ s.heap _ _ fun _ _ e => e⟩
    | cons x l =>
      exact call_list_reprK h1 h2 h3 hna (by simpa using hk.length_eq) (fun i y e => hk.item i y (by simpa using e)) hg (fun b _ => Clear.nil b) (by show A.units + 1 + _ < _; omega) (fun _ _ e => e) (fun h' u tk hk2 => ⟨_, _, rfl, hQ h' tk u hk2⟩) hz2
  | _, _, _, Q, .tuple (a := a) (xs := xs) h1 h2 h3 h4, hd, hs, hg, hu, hz, hQ => by
    have hz2 : (tupleText (PyData.shownAll xs)).length ≤ sizeLine := by simpa only [PyData.shown] using hz
    have hd2 : PyData.hasDictAll xs = false := by simpa only [PyData.hasDict] using hd
    obtain ⟨bs, hb, hk⟩ := ReprAllK.of_readsAll (prog := prog) (w := w) h4 (by simpa [PyData.showable] using hs) (fun hx => by rw [hd2] at hx; cases hx) (fun t ht => Nat.le_trans (tupleText_mem_le ht) hz2)
    have r : Reads s.heap (.ref a) (.tuple xs) _ := .tuple h1 h2 h3 h4
    have hna : a ∉ bs := not_mem_of_deeper r (by simp only [PyData.depth]; omega) hb
    simp only [PyData.depth] at hu
    simp only [PyData.shown] at hQ
    have hTy : s.TypeIs (.ref a) "tuple" := ⟨_, h1, h2⟩
    refine PySem.call_repr_slot (by omega) hTy F.slot_tuple_repr ?_
    exact call_tuple_reprK h1 h2 h3 hna hk hg (fun b _ => Clear.nil b) (by show A.units + 1 + _ < _; omega) (fun _ _ e => e) (fun h' u tk hk2 => ⟨_, _, rfl, hQ h' tk u hk2⟩) hz2
  | _, _, _, _, .dict _ _ _ _ _, hd, _, _, _, _, _ => by simp only [PyData.hasDict] at hd; cases hd
end
mutual
theorem dp_nodict {K : PySem.W.Frag} {H : Hp} : ∀ {v : V} {d : PyData}, Dp K H v d → d.hasDict = false
  | _, _, .non => by simp only [PyData.hasDict]
  | _, _, .bl _ => by simp only [PyData.hasDict]
  | _, _, .int _ => by simp only [PyData.hasDict]
  | _, _, .str _ => by simp only [PyData.hasDict]
  | _, _, .lst _ ha => by simp only [PyData.hasDict]; exact dps_nodict ha
  | _, _, .tup _ ha => by simp only [PyData.hasDict]; exact dps_nodict ha
theorem dps_nodict {K : PySem.W.Frag} {H : Hp} : ∀ {vs : List V} {ds : List PyData}, DpAll K H vs ds → PyData.hasDictAll ds = false
  | _, _, .nil => by simp only [PyData.hasDictAll]
  | _, _, .cons h hs => by simp only [PyData.hasDictAll, dp_nodict h, dps_nodict hs, Bool.or_false]
end
def rRepr (K : PySem.W.Frag) : List V → Hp → VK → Prop := fun xs H Q => ∃ x d, xs = [x] ∧ Dp K H x d ∧ d.showable = true ∧ d.depth ≤ 60 ∧ d.shown.length ≤ sizeLine ∧ Q (.str d.shown) H
theorem call_reprD {X : Cx} (hg : X.A.guards = some []) (hu : X.A.units + 64 < cLine) : CallR X (.builtin "repr") (rRepr X.K) := by
  intro pins s σ H xs us Q I r h
  obtain ⟨x, d, rfl, hd, hs, hdp, hz, q⟩ := h
  obtain ⟨u, rfl, ru⟩ := vals1 r
  obtain ⟨as, hr⟩ := Dp.reads I d x u hd ru
  exact repr_reads hr (dp_nodict hd) hs hg (by omega) hz fun h' tk t hk => ⟨.str _, H, I.kept hk, ⟨_, rfl⟩, q⟩
end L3
namespace L3
open PySem PySem.Spec PyProof.Rows L2
/-- as L2.FnOk, called where no repr is under way -/
structure FnG (P : Program) (w : World) (K : PySem.W.Frag) (mg : Str → Option Value) (base : Heap) (CX : CXT) (k : Nat) (f : Addr) (fd : FuncData) (ps : List Str) (sp : Sp) : Prop where
  len : ∀ vs H Q E, sp vs H Q E → vs.length = ps.length
  run : ∀ (A : Around) (outer : List Env) (s : Shared) (H : Hp) (args : Args) (us : List Value) (vs : List V) (Q : VK) (E : XK), A.guards = some [] → Room k A → Env0 P w K mg base A outer s H → BindsTo s fd args (ps.zip us) → Vals vs us → sp vs H Q E →
    codeAny (model P w) A (.call (.ref f) args) (CR CX outer P w H s Q E) s
section
variable {P : Program} {w : World} {K : PySem.W.Frag} {mg : Str → Option Value} {base : Heap} {CX : CXT}
theorem FnG.mono {j k : Nat} {f : Addr} {fd : FuncData} {ps : List Str} {sp : Sp} (F : FnG P w K mg base CX j f fd ps sp) (h : j ≤ k) : FnG P w K mg base CX k f fd ps sp :=
  ⟨F.len, fun A outer s H args us vs Q E hg hr e0 hb r q => F.run A outer s H args us vs Q E hg (hr.mono h) e0 hb r q⟩
theorem FnG.imp {k : Nat} {f : Addr} {fd : FuncData} {ps : List Str} {sp sp2 : Sp} (F : FnG P w K mg base CX k f fd ps sp) (h : ∀ vs H Q E, sp2 vs H Q E → sp vs H Q E) : FnG P w K mg base CX k f fd ps sp2 :=
  ⟨fun vs H Q E q => F.len vs H Q E (h _ _ _ _ q), fun A outer s H args us vs Q E hg hr e0 hb r q => F.run A outer s H args us vs Q E hg hr e0 hb r (h _ _ _ _ q)⟩
theorem fnG_of_ok {k : Nat} {f : Addr} {fd : FuncData} {ps : List Str} {sp : Sp} (F : FnOk P w K mg base CX k f fd ps sp) : FnG P w K mg base CX k f fd ps sp :=
  ⟨F.len, fun A outer s H args us vs Q E _ hr e0 hb r q => F.run A outer s H args us vs Q E hr e0 hb r q⟩
/-- a def by its body -/
theorem fnG_of {k : Nat} {f : Addr} {name qual : Str} {params : Arguments} {body : List Stmt} {scope : Scope} {dV kV doc pm cdv ct oc : Value} {an od : Option Addr}
    {osl : Array (Option Value)} {N ps : List Str} {sp : Sp} (look : K.lookup f = some ⟨oc, od, .func (PySem.W.fnOf name qual params body scope dV kV doc pm an cdv ct), osl⟩) (hcode : PySem.W.codeIn K cdv qual = true) (sc : FnScope N ps scope)
    (hlen : ∀ vs H Q E, sp vs H Q E → vs.length = ps.length)
    (hbody : ∀ (A : Around) (outer : List Env) (s : Shared) (H : Hp) (vs : List V) (Q : VK) (E : XK), A.guards = some [] → Room k (A.deeper (envOfC qual scope s.heap.objs.size f cdv)) → sp vs H Q E →
      ∃ t, PSs (cxOf CX P w K mg base N qual scope f cdv A outer s H E) body t ∧ t { nx := fun _ H1 => Q .non H1, rt := Q } (start N vs) H) :
    FnG P w K mg base CX (k + 1) f (PySem.W.fnOf name qual params body scope dV kV doc pm an cdv ct) ps sp := by
  refine ⟨hlen, fun A outer s H args us vs Q E hg hr e0 hb r hsp => ?_⟩
  have inK : K.In s.heap := e0.mod.kin.keeps fun b u q => (e0.bs b u q).1
  have noL : s.heap.NoLimit := e0.mod.nolimit.keeps fun b u q => (e0.bs b u q).1
  have kinds : ∀ y ∈ ps.zip us, scope.names.lookup y.1 = some .local ∨ (scope.names.lookup y.1 = some .cell ∧ ((cellsFrom (s.heap.objs.size + 1) scope.names []).lookup y.1).isSome = true) := by
    rintro ⟨n, v⟩ hy
    cases sc.par n (List.of_mem_zip hy).1 with
    | inl z => exact .inl z
    | inr z => exact .inr ⟨z, PySem.W.cellsFrom_some _ _ _ (.inl z)⟩
  refine codeAny_call_function hr.depth (inK _ _ look) rfl sc.co sc.gen rfl (PySem.W.codeRec_of inK hcode) (hb _ _ _ _ (wpAny_newFunctionEnv_cells sc.kind kinds fun env henv s1 inc => ?_))
  subst henv
  obtain ⟨t, ht, hq⟩ := hbody A outer s H vs Q E hg (hr.deeper _) hsp
  have I := inv_start (CX := CX) (E := E) sc hr.hd e0 (hlen _ _ _ _ hsp) r inc
  have out : ∀ {τ : St} {H1 : Hp} {v : V} {u : Value} {s2 : Shared}, Inv (cxOf CX P w K mg base N qual scope f cdv A outer s H E) [] τ H1 s2 → RelV v u → Q v H1 → CE outer P w H s Q u s2 :=
    fun {τ H1 v u s2} J rv q => ⟨v, H1, J.os, J.bare, J.base, J.hok, rv, q⟩
  refine ⟨noL.keeps inc.toInCall.keep, codeAny_func (wpAny_mono (ht.run [] s1 (start N vs) H _ I hq) (fun fl s2 hs => ?_) fun _ _ z => z)⟩
  match fl, hs with
  | .ret u, ⟨v, τ, H1, J, rv, q⟩ => exact out J rv q
  | .next, ⟨τ, H1, J, q⟩ => exact out (v := V.non) (u := Value.none) J rfl q
  | .brk, ⟨_, _, _, q⟩ => exact q.elim
  | .cont, ⟨_, _, _, q⟩ => exact q.elim
theorem okG {x qual : Str} {st : Stmt} {f : Addr} {fd : FuncData} {N ps : List Str} {k : Nat} {sp : Sp} (F : Fun K x qual st f fd) (S : FnScope N ps (defScope st)) (hlen : ∀ vs H Q E, sp vs H Q E → vs.length = ps.length)
    (hbody : ∀ (cdv : Value) (A : Around) (outer : List Env) (s : Shared) (H : Hp) (vs : List V) (Q : VK) (E : XK), (A.deeper (envOfC qual (defScope st) s.heap.objs.size f cdv)).guards = some [] → Room k (A.deeper (envOfC qual (defScope st) s.heap.objs.size f cdv)) → sp vs H Q E →
      ∃ t, PSs (cxOf CX0 P w K mg base N qual (defScope st) f cdv A outer s H E).nox (defBody st) t ∧ t { nx := fun _ H1 => Q .non H1, rt := Q } (start N vs) H) : FnG P w K mg base CX0 (k + 1) f fd ps sp := by
  obtain ⟨oc, od, kV, doc, pm, an, cdv, ct, osl, rfl, lk, hcd⟩ := F.ex
  refine fnG_of lk hcd S hlen fun A outer s H vs Q E hg hr hsp => ?_
  obtain ⟨t, h, q⟩ := hbody cdv A outer s H vs Q E hg hr hsp
  exact ⟨t, h.nox, q⟩
end
section
variable {X : Cx} {CX : CXT} {j k n : Nat} {f C : Addr} {fd : FuncData} {ps ks : List Str} {sp : Sp} {E : XK} {x : Str} {p pos : Pos} {e : Expr} {es : List Expr} {t tk : TA} {kws : List Keyword}
theorem run_g {pins : List (Addr × Obj)} {σ : St} {H : Hp} {s : Shared} {Q : VK} {us us2 : List Value} {kw : List (Str × Value)} {vs : List V} (F : FnG X.prog X.w X.K X.mg X.base CX k f fd ps sp) (hg : X.A.guards = some []) (hr : Room k X.A) (hb : BindsTo s fd ⟨us, kw⟩ (ps.zip us2)) (hx : Passes CX X E)
    (I : Inv X pins σ H s) (r : Vals vs us2) (h : sp vs H Q E) : wpAny (model X.prog X.w) X.A (call (.ref f) us kw) (EP X pins σ Q) X.xe s := by
  refine wpAny_call (codeAny_mono (F.run X.A X.stack s H ⟨us, kw⟩ us2 vs Q E hg hr I.env0 hb r h) fun r2 s2 hq => ?_)
  match r2, hq with
  | .error e, hq => exact hx pins σ H s e s2 I hq
  | .ok (.ret u), hq => exact I.after hq
  | .ok .next, hq => exact hq.elim
  | .ok .brk, hq => exact hq.elim
  | .ok .cont, hq => exact hq.elim
/-- the module's name x is a def that keeps the promise sp -/
structure Cg (P : Program) (w : World) (K : PySem.W.Frag) (mg : Str → Option Value) (base : Heap) (CX : CXT) (k : Nat) (x : Str) (sp : Sp) : Prop where
  ex : ∃ (f : Addr) (fd : FuncData) (ps : List Str), FnG P w K mg base CX k f fd ps sp ∧ mg x = some (.ref f) ∧ PySem.W.keepIn K (.ref f) = true ∧ Binds K fd ps []
/-- the same called by keywords ks alone, in this order -/
structure Cgk (P : Program) (w : World) (K : PySem.W.Frag) (mg : Str → Option Value) (base : Heap) (CX : CXT) (k : Nat) (x : Str) (ks : List Str) (sp : Sp) : Prop where
  ex : ∃ (f : Addr) (fd : FuncData) (ps : List Str) (g : List Value → List Value) (gV : List V → List V) (sp0 : Sp), FnG P w K mg base CX k f fd ps sp0 ∧ mg x = some (.ref f) ∧ PySem.W.keepIn K (.ref f) = true ∧
    (∀ (s : Shared) (ws : List Value), K.In s.heap → ws.length = ks.length → BindsTo s fd ⟨[], ks.zip ws⟩ (ps.zip (g ws))) ∧ (∀ (zs : List V) (ws : List Value), zs.length = ks.length → Vals zs ws → Vals (gV zs) (g ws)) ∧
    ∀ zs H Q E, sp zs H Q E → zs.length = ks.length ∧ sp0 (gV zs) H Q E
theorem pe_cg (c : Cg X.prog X.w X.K X.mg X.base CX k x sp) (hgd : X.A.guards = some []) (hr : Room j X.A) (hk : k ≤ j) (hg : Gl X x) (hx : Passes CX X E) (ha : PA X (e :: es) t)
    (hdb : (x == ("__debug__" : Str)) = false := by decide) (he : starEach (e :: es) X.env = (false, eval e X.env) :: starEach es X.env := by rfl) (hpl : (backTo pos (starEach es X.env)).any (·.1) = false := by rfl) :
    PE X (.Call (.Name x p) (e :: es) [] pos) (tCall sp [] E t) := by
  obtain ⟨f, fd, ps, F, hm, kp, b⟩ := c.ex
  refine ⟨fun pins s σ H Q I h => ?_⟩
  refine Call_ (ld_glob I hg hm ?_ hdb)
  refine PySem.W.callWith_K (h₀ := X.base) I.ok.mod.kin kp ?_ he hpl
  refine thn (ha.run pos pins s σ H _ I h) fun us s1 ⟨vs, H1, I1, r, q⟩ => ⟨I1.kIn, ?_⟩
  have q2 : sp (vs ++ []) H1 Q E := q
  rw [List.append_nil] at q2
  have hb := b s1 us I1.kIn (by rw [List.append_nil, ← r.length]; exact F.len _ _ _ _ q2)
  rw [List.append_nil] at hb
  exact run_g F hgd (hr.mono hk) hb hx I1 r q2
theorem pe_cgk (c : Cgk X.prog X.w X.K X.mg X.base CX k x ks sp) (hgd : X.A.guards = some []) (hr : Room j X.A) (hk : k ≤ j) (hg : Gl X x) (hx : Passes CX X E) (hkw : PK X kws tk)
    (hall : (backToKw pos (keywordEach kws X.env)).all (·.1.isSome) = true := by rfl) (hks : (backToKw pos (keywordEach kws X.env)).filterMap (·.1) = ks := by rfl) (hdb : (x == ("__debug__" : Str)) = false := by decide)
    (hpl : ((backTo pos (starEach [] X.env)).any (·.1) || (backToKw pos (keywordEach kws X.env)).any (·.1.isNone)) = false := by rfl) :
    PE X (.Call (.Name x p) [] kws pos) (tCall sp [] E tk) := by
  obtain ⟨f, fd, ps, g, gV, sp0, F, hm, kp, to, rel, imp⟩ := c.ex
  refine ⟨fun pins s σ H Q I h => ?_⟩
  refine wpAny_Call_Name_kw (ld_glob I hg hm ?_ hdb)
  refine PySem.W.callWith_KW0 (h₀ := X.base) I.ok.mod.kin kp hall ?_ hpl
  refine thn (hkw.run pos pins s σ H _ I h) fun ws s1 ⟨zs, H1, I1, rz, q⟩ => ⟨I1.kIn, ?_⟩
  rw [hks]
  have q1 : sp (zs ++ []) H1 Q E := q
  rw [List.append_nil] at q1
  obtain ⟨hz, q2⟩ := imp _ _ _ _ q1
  exact run_g F hgd (hr.mono hk) (to s1 ws I1.kIn (by rw [← rz.length]; exact hz)) hx I1 (rel zs ws hz rz) q2
end
end L3

/-! the end of a law whose def is called where no repr is under way. -/
namespace L3
open PySem PySem.Spec PyProof.Rows L2
/-- the script's place in the abstract heap: nothing, or the locked list -/
def scriptH (a : Addr) (o : Obj) (ns : List Int) : Hp := fun b => if b = a then some (.frz o (.lst (ns.map V.int))) else none
theorem law_callG {P : Program} {w : World} {K : PySem.W.Frag} {mg mb : Str → Option Value} {k : Nat} {fa a : Addr} {fd : FuncData} {x : Str} {sp : Sp} {s1 : Shared} {vs : List Value} {ns : List Int}
    (inK : K.In s1.heap) (nsM : s1.heap.Ns mainGlobals mg) (nsB : s1.heap.Ns builtinsNs mb) (hmb : ∀ x : Str, x ≠ "__name__" → mb x = bootBuiltins x) (noL : s1.heap.NoLimit) (hgens : s1.gens = #[])
    (ha : s1.heap.get? a = some { cls := .type "list", data := .seq vs.toArray }) (hints : IntsAre vs ns) (hl : ns.length ≤ sizeLine) (room : Room k callerA)
    (F : ∀ base : Heap, K.In base → base.Ns mainGlobals mg → FnG P w K mg base CX0 k fa fd [x] sp) (hb : ∀ (s : Shared) (u : Value), BindsTo s fd ⟨[u], []⟩ [(x, u)])
    (hsp : ∀ H : Hp, SqL K H a (ns.map V.int) → (∀ b, H b ≠ none → b = a) → sp [.ref a] H (fun v _ => v = .bl true) fun _ _ _ => False) :
    codeAny (model P w) callerA (.call (.ref fa) ⟨[.ref a], []⟩) (fun r s2 => r = .ok (.ret (.bool true)) ∧ OldK s1.heap s2.heap ∧ s2.os = s1.os ∧ AllBare s2.gens) s1 := by
  have rel := vals_ints hints
  have len := hints.length
  suffices core : ∀ H : Hp, (∀ b, H b = none ∨ ∃ ob xs, H b = some (.frz ob (.lst xs))) → SqL K H a (ns.map V.int) → HOk P w H s1.heap → (∀ b, H b ≠ none → b = a) → (H a ≠ none → K.lookup a = none) →
      codeAny (model P w) callerA (.call (.ref fa) ⟨[.ref a], []⟩) (fun r s2 => r = .ok (.ret (.bool true)) ∧ OldK s1.heap s2.heap ∧ s2.os = s1.os ∧ AllBare s2.gens) s1 by
    by_cases hk : ∃ o, K.lookup a = some o
    · obtain ⟨o, hk⟩ := hk
      have same := inK a o hk
      rw [ha] at same
      cases same
      have tracked : SqL K (fun _ => none) a (ns.map V.int) := .inr ⟨_, vs.toArray, _, hk, rfl, rfl, rfl, by rw [List.size_toArray, len]; exact hl, by simpa using rel⟩
      exact core (fun _ => none) (fun _ => .inl rfl) tracked (fun b u z => by cases (show (none : Option HO) = some u from z)) (fun b z => (z rfl).elim) fun z => (z rfl).elim
    · have hk0 : K.lookup a = none := by
        cases h : K.lookup a with
        | none => rfl
        | some o => exact (hk ⟨o, h⟩).elim
      have at_a : scriptH a { cls := .type "list", data := .seq vs.toArray } ns a = some (.frz { cls := .type "list", data := .seq vs.toArray } (.lst (ns.map V.int))) := if_pos rfl
      have off : ∀ b, b ≠ a → scriptH a { cls := .type "list", data := .seq vs.toArray } ns b = none := fun b hne => if_neg hne
      refine core (scriptH a { cls := .type "list", data := .seq vs.toArray } ns) (fun b => ?_) (.inl (.inr ⟨_, at_a⟩)) (fun b u z => ?_) (fun b z => Decidable.byContradiction fun hne => z (off b hne)) fun _ => hk0
      · by_cases hne : b = a
        · exact .inr ⟨_, _, by rw [hne]; exact at_a⟩
        · exact .inl (off b hne)
      · by_cases hne : b = a
        · subst hne
          rw [at_a] at z
          cases z
          exact ⟨ha, by rw [List.length_map]; exact hl, vs, _, rel, ha⟩
        · rw [off b hne] at z
          cases z
  intro H only hS hok onlyA notK
  have lower : ∀ {b : Addr} {o : Obj}, s1.heap.get? b = some o → H b = none → (hidT s1.heap H).get? b = some o := fun q n => hidT_get q n
  have freeK : ∀ b o, K.lookup b = some o → H b = none := fun b o q => by
    cases h : H b with
    | none => rfl
    | some u =>
      have eb := onlyA b (by rw [h]; exact Option.some_ne_none u)
      subst eb
      rw [notK (by rw [h]; exact Option.some_ne_none u)] at q
      cases q
  have freeD : ∀ {b : Addr} {o : Obj} {es : Array DictEntry} {ep : Nat}, s1.heap.get? b = some o → o.data = .dict es ep → H b = none := fun {b o es ep} q d => by
    cases h : H b with
    | none => rfl
    | some u =>
      have eb := onlyA b (by rw [h]; exact Option.some_ne_none u)
      subst eb
      rw [ha] at q
      cases q
      cases (show Data.seq vs.toArray _ = Data.dict es ep from d)
  have lowerN : ∀ {b : Addr} {m : Str → Option Value}, s1.heap.Ns b m → (hidT s1.heap H).Ns b m := fun {b m} ⟨o, es, ep, q, d, r⟩ => ⟨o, es, ep, lower q (freeD q d), d, r⟩
  have inB : K.In (hidT s1.heap H) := fun b o q => lower (inK b o q) (freeK b o q)
  have mod : Mod K mg (hidT s1.heap H) := ⟨inB, lowerN nsM, ⟨mb, lowerN nsB, hmb⟩, let ⟨mc, q1, q2⟩ := noL; ⟨mc, lowerN q1, q2⟩⟩
  have start0 : Env0 P w K mg (hidT s1.heap H) callerA [] s1 H := ⟨rfl, mod, fun b o q => of_hidT q, Nat.le_of_eq (hidT_size _ _), trivial, fun b z => absurd (show b ∈ ([] : List Addr) from z) List.not_mem_nil, hok, .of_eq hgens⟩
  refine codeAny_mono ((F _ inB (lowerN nsM)).run callerA [] s1 H ⟨[.ref a], []⟩ [.ref a] [.ref a] _ _ rfl room start0 (hb s1 (.ref a)) (.cons rfl .nil) (hsp H hS onlyA)) fun r s2 hr => ?_
  match r, hr with
  | .error e, hr => exact hr.elim
  | .ok .next, hr => exact hr.elim
  | .ok .brk, hr => exact hr.elim
  | .ok .cont, hr => exact hr.elim
  | .ok (.ret u), hr =>
    obtain ⟨v, H2, os, bare, un, hok2, rv, q⟩ := hr
    have ev : v = .bl true := q
    subst ev
    cases (show u = Value.bool true from rv)
    refine ⟨rfl, OldK.of_keep fun b o q => ?_, os, bare⟩
    rcases only b with n | ⟨ob, xs, z⟩
    · exact un.keep b o q n (fun z => absurd (show b ∈ ([] : List Addr) from z) List.not_mem_nil) (fun z => absurd z List.not_mem_nil)
    · obtain ⟨q1, _⟩ := hok b _ z
      obtain ⟨q2, _⟩ := hok2 b _ (un.frzs b ob _ z)
      rw [q] at q1
      cases q1
      exact q2
/-- the end of a law row, from the promise of its def -/
theorem walk_ofG {l : PySem.W.OpenLaw} {n k : Nat} {q : Program} {loose : List Str} {XP : (Str → Option Value) → Heap → Prop} {YP : World → Heap → Prop} {d : DefRec} {K : Params → PySem.W.Frag} {sp : PySem.W.Frag → Sp} {x : Str}
    (hn : l.most = some n) (hn2 : n ≤ sizeLine) (hdf : d.params.defaults = []) (hr : Room k callerA)
    (hY : ∀ (w : World) (h : Heap), YP w h → (K w.params).In h)
    (F : ∀ (w : World) (mg : Str → Option Value) (fa : Addr) (h : Heap), (K w.params).In h → h.Ns mainGlobals mg → mg d.name = some (.ref fa) →
      ∃ fd : FuncData, (∀ (s : Shared) (u : Value), BindsTo s fd ⟨[u], []⟩ [(x, u)]) ∧ ∀ base : Heap, (K w.params).In base → base.Ns mainGlobals mg → FnG l.prog w (K w.params) mg base CX0 k fa fd [x] (sp (K w.params)))
    (hsp : ∀ (K : PySem.W.Frag) (H : Hp) (a : Addr) (ns : List Int), ns.length ≤ n → SqL K H a (ns.map V.int) → (∀ b, H b ≠ none → b = a) → sp K [.ref a] H (fun v _ => v = .bl true) fun _ _ _ => False) :
    PySem.W.WalkO q loose XP YP l.row.toRowW d [] (fun f vs => PySem.call f vs) := by
  refine Att.attach_call hn hdf fun w s0 s1 mg mb fa o pm cd doc a vs ns G Y ho hd hcd hmg hobj hints hlen hg => ?_
  obtain ⟨fd, hb, hF⟩ := F w mg fa _ (hY w _ Y) G.T.g hmg
  exact law_callG (hY w _ Y) G.T.g G.T.b G.T.builtins G.T.nolimit hg hobj hints (Nat.le_trans hlen hn2) hr hF hb fun H hS hA => hsp _ H a ns hlen hS hA
end L3

/-! rules that serve several kinds of values at once. -/
namespace L3
open PySem PySem.Spec PyProof.Rows L2
section
variable {X : Cx}
/-- + of ints, tuples, lists, texts -/
def rAddA (K : PySem.W.Frag) : R2 := fun x y H Q => rI0 (fun i j => .int (i + j)) x y H Q ∨ rCatA K x y H Q ∨ rCat x y H Q ∨ (∃ i j, x = .str i ∧ y = .str j ∧ i.length + j.length ≤ sizeLine ∧ Q (.str (i ++ j)) H)
theorem oAdd : OpR X (binaryOp .Add) (rAddA X.K) := op_add.or (op_catA.or (op_cat.or op_add_str))
def rMulA (K : PySem.W.Frag) : R2 := fun x y H Q => rI CMul (fun i j => .int (i * j)) x y H Q ∨ rRepT K x y H Q
theorem oMul : OpR X (binaryOp .Mult) (rMulA X.K) := op_mul.or op_repT
theorem oSub : OpR X (binaryOp .Sub) (rI0 fun i j => .int (i - j)) := op_sub
theorem oFdiv : OpR X (binaryOp .FloorDiv) (rI CDiv fun i j => .int (i / j)) := op_fdiv
theorem oMod : OpR X (binaryOp .Mod) (rI (fun _ j => 0 < j) fun i j => .int (i % j)) := op_mod
theorem oPow : OpR X (binaryOp .Pow) (rI CPow fun i j => .int (i ^ j.toNat)) := op_pow
def rEqA (K : PySem.W.Frag) : R2 := fun x y H Q => rEq x y H Q ∨ rEqD K x y H Q
def rNeA (K : PySem.W.Frag) : R2 := fun x y H Q => rNe x y H Q ∨ rNeD K x y H Q
theorem oEq {k : Nat} (hr : Room k X.A) : OpR X (compareOp .Eq) (rEqA X.K) := op_eq.or (op_eqD hr.units)
theorem oNe {k : Nat} (hr : Room k X.A) : OpR X (compareOp .NotEq) (rNeA X.K) := op_ne.or (op_neD hr.units)
theorem oLt : OpR X (compareOp .Lt) (rI0 fun i j => .bl (decide (i < j))) := op_lt
theorem oLe : OpR X (compareOp .LtE) (rI0 fun i j => .bl (decide (i ≤ j))) := op_le
theorem oGt : OpR X (compareOp .Gt) (rI0 fun i j => .bl (decide (j < i))) := op_gt
theorem oGe : OpR X (compareOp .GtE) (rI0 fun i j => .bl (decide (j ≤ i))) := op_ge
def rIsNone : R2 := fun x y H Q => y = .non ∧ Q (.bl (decide (x = .non))) H
def rIsNotNone : R2 := fun x y H Q => y = .non ∧ Q (.bl (!decide (x = .non))) H
theorem oIs : OpR X (compareOp .Is) rIsNone := op_isN
theorem oIsNot : OpR X (compareOp .IsNot) rIsNotNone := op_notN
def rInA (K : PySem.W.Frag) : R2 := fun x y H Q => rIn K false x y H Q ∨ rInD K x y H Q
def rNotInA (K : PySem.W.Frag) : R2 := fun x y H Q => rIn K true x y H Q ∨ rNotInD K x y H Q
theorem oIn {k : Nat} (hr : Room k X.A) : OpR X (compareOp .In) (rInA X.K) := op_in_seq.or (op_inD (by have := hr.un; omega))
theorem oNotIn {k : Nat} (hr : Room k X.A) : OpR X (compareOp .NotIn) (rNotInA X.K) := op_notIn_seq.or (op_notInD (by have := hr.un; omega))
def rNegI : V → Hp → VK → Prop := fun x H Q => ∃ i, x = .int i ∧ Q (.int (-i)) H
theorem oIx : IxR X (rIx X.K) := ix_seq
def rSlS (K : PySem.W.Frag) : V → Option Int → Option Int → Hp → VK → Prop := fun x lo hi H Q => rSlL K x lo hi H Q ∨ rSlA K x lo hi H Q
theorem oSl : SlR X (rSlS X.K) := sl_list.or sl_tupA
/-- what a for walks: a list, a tuple -/
def iSeq (K : PySem.W.Frag) (te : TE) : TI := fun σ H R => te σ H fun x H1 => ∃ a xs, x = .ref a ∧ ((SqL K H1 a xs ∧ R (Itl K a) H1) ∨ (SqT K H1 a xs ∧ R (Itt K a) H1))
theorem pi_seq {tg e : Expr} {te : TE} (he : PE X e te) : PI X tg e (iSeq X.K te) := by
  refine ⟨fun pins s σ H R I h => thn (he.run pins s σ H _ I h) ?_⟩
  rintro v s1 ⟨x, H1, I1, r1, a, xs, rfl, hq⟩
  cases r1
  have fresh1 : ∀ b ∈ [s1.heap.objs.size], FpOk X pins H1 b := fun b hb => by
    rw [List.mem_singleton.mp hb]
    exact I1.fpOk (Nat.le_refl _) (I1.hok.fresh (Nat.le_refl _))
  rcases hq with ⟨hl, q⟩ | ⟨ht, q⟩
  · obtain ⟨its, rv, p, _⟩ := I1.list hl
    exact wpAny_pyIter_list p.isList ⟨s1.heap.objs.size, [s1.heap.objs.size], _, _, H1, rfl, I1.kept (t' := s1.toks) fun b u z => Heap.get?_push_of_some _ z, turn_list a _, ⟨_, Heap.get?_push_size _ rfl, rfl, rfl⟩, fresh1, q⟩
  · obtain ⟨its, rv, p, _⟩ := I1.tuple ht
    exact wpAny_pyIter_tuple (show s1.heap.IsTuple a its.toArray from p) ⟨s1.heap.objs.size, [s1.heap.objs.size], _, _, H1, rfl, I1.kept (t' := s1.toks) fun b u z => Heap.get?_push_of_some _ z, turn_tuple a _, ⟨_, Heap.get?_push_size _ rfl, rfl, rfl⟩, fresh1, q⟩
/-- *e in a display, e a list or a tuple -/
def tStar (K : PySem.W.Frag) (te : TE) (tr : TA) : TA := fun σ H Q => te σ H fun x H1 => ∃ a xs, x = .ref a ∧ (SqT K H1 a xs ∨ SqL K H1 a xs) ∧ tr σ H1 fun ys H2 => Q (xs ++ ys) H2
theorem pa_star {e : Expr} {es : List Expr} {te : TE} {t : TA} {sp : Pos} (ha : PE X e te) (hr : PA X es t) : PA X (.Starred e sp :: es) (tStar X.K te t) := by
  refine ⟨fun pos pins s σ H Q I h => PySem.W.items_star (thn (ha.run pins s σ H _ I h) ?_)⟩
  rintro u s1 ⟨x, H1, I1, r1, a, xs, rfl, hq, q1⟩
  cases r1
  refine StX.star_any I1 hq fun us s2 I2 rv => thn (hr.run pos pins s2 σ H1 _ I2 q1) ?_
  rintro ws s3 ⟨ys, H2, I3, r2, q2⟩
  exact ⟨xs ++ ys, H2, I3, rv.append r2, q2⟩
/-- t.count(k), t a tuple of ints -/
def rCntT (K : PySem.W.Frag) : V → List V → Hp → VK → Prop := fun x xs H Q => ∃ (p : Addr) (ns : List Int) (k : Int), x = .ref p ∧ xs = [.int k] ∧ SqT K H p (ns.map V.int) ∧ Q (.int (ns.count k : Nat)) H
theorem mt_tcount : MtR X "tuple.count" (rCntT X.K) := by
  rintro pins s σ H x xs v us Q I rx rxs ⟨p, ns, k, rfl, rfl, hs, q⟩
  cases rx
  obtain ⟨u, rfl, t, rfl⟩ := rxs.one
  obtain ⟨its, rv, ⟨⟨cls, dd, data, sl⟩, ho, hc, n, hd⟩, _⟩ := I.tuple hs
  cases (show cls = .type "tuple" from hc)
  cases (show data = .seq its.toArray n from hd)
  have hin := ints_of_vals rv
  refine call_meets PySem.F.slot_tuple_count ⟨_, ho, rfl⟩ PySem.F.entry_tuple_count (PySem.F.args_tuple_count_2 _ _) (SeqAt.tuple_countAt p its.toArray n dd sl (.int k t) (eqk k))
    ⟨ho, fun y hy => (eqk_gives hin y (by simpa using hy)).at _ _, .int (ns.count k : Nat), H, I.tok _, ⟨s.toks, ?_⟩, q⟩
  have ec : its.toArray.toList.countP (eqk k) = ns.count k := eqk_count hin
  show Value.int ((its.toArray.toList.countP (eqk k) : Nat) : Int) s.toks = _
  rw [ec]
/-- max, min of two ints or of a list of ints -/
def rMaxA (K : PySem.W.Frag) : List V → Hp → VK → Prop := fun xs H Q => (∃ i j, xs = [.int i, .int j] ∧ Q (.int (if j > i then j else i)) H) ∨ rMax K xs H Q
theorem call_maxA (hc : X.calm = true) : CallR X (.builtin "max") (rMaxA X.K) := (call_max2 hc).or (cr_max hc)
def rMinA (K : PySem.W.Frag) : List V → Hp → VK → Prop := fun xs H Q => (∃ i j, xs = [.int i, .int j] ∧ Q (.int (if j < i then j else i)) H) ∨ rMin K xs H Q
theorem call_minA (hc : X.calm = true) : CallR X (.builtin "min") (rMinA X.K) := (call_min2 hc).or (cr_min hc)
/-- a op= b, by values -/
theorem ipAdd : PIp X .Add (rI0 fun i j => .int (i + j)) := fun pins s σ H x y v u Q I rx ry h => by
  obtain ⟨i, j, rfl, rfl, q⟩ := h
  obtain ⟨t, rfl⟩ := rx
  obtain ⟨t2, rfl⟩ := ry
  exact PyProof.Rows.iadd_int ⟨.int _, H, I.tok _, ⟨_, rfl⟩, q⟩
theorem ipSub : PIp X .Sub (rI0 fun i j => .int (i - j)) := fun pins s σ H x y v u Q I rx ry h => by
  obtain ⟨i, j, rfl, rfl, q⟩ := h
  obtain ⟨t, rfl⟩ := rx
  obtain ⟨t2, rfl⟩ := ry
  exact PyProof.Rows.isub_int ⟨.int _, H, I.tok _, ⟨_, rfl⟩, q⟩
theorem ipMul : PIp X .Mult (rI CMul fun i j => .int (i * j)) := fun pins s σ H x y v u Q I rx ry h => by
  obtain ⟨i, j, rfl, rfl, hc, q⟩ := h
  obtain ⟨t, rfl⟩ := rx
  obtain ⟨t2, rfl⟩ := ry
  exact PyProof.Rows.imul_int ⟨.int _, H, I.tok _, ⟨_, rfl⟩, q⟩ hc.ok
theorem ipFdiv : PIp X .FloorDiv (rI CDiv fun i j => .int (i / j)) := fun pins s σ H x y v u Q I rx ry h => by
  obtain ⟨i, j, rfl, rfl, ⟨h1, h2⟩, q⟩ := h
  obtain ⟨t, rfl⟩ := rx
  obtain ⟨t2, rfl⟩ := ry
  exact PyProof.Rows.ifloordiv_int (by omega) ⟨.int _, H, I.tok _, ⟨_, rfl⟩, by rw [Int.fdiv_eq_ediv_of_nonneg i (by omega)]; exact q⟩ (.inl (PyProof.noPylong_small (by omega)))
theorem ipMod : PIp X .Mod (rI (fun _ j => 0 < j) fun i j => .int (i % j)) := fun pins s σ H x y v u Q I rx ry h => by
  obtain ⟨i, j, rfl, rfl, h1, q⟩ := h
  obtain ⟨t, rfl⟩ := rx
  obtain ⟨t2, rfl⟩ := ry
  exact PyProof.Rows.imod_int (by omega) ⟨.int _, H, I.tok _, ⟨_, rfl⟩, by rw [Int.fmod_eq_emod_of_nonneg i (by omega)]; exact q⟩
/-! ### the same with the written part named (a comprehension's block keeps it) -/
variable {K : PySem.W.Frag}
theorem kAdd (hK : X.K = K := by rfl) : OpR X (binaryOp .Add) (rAddA K) := hK ▸ oAdd
theorem kMul (hK : X.K = K := by rfl) : OpR X (binaryOp .Mult) (rMulA K) := hK ▸ oMul
theorem kEq {k : Nat} (hr : Room k X.A) (hK : X.K = K := by rfl) : OpR X (compareOp .Eq) (rEqA K) := hK ▸ oEq hr
theorem kNe {k : Nat} (hr : Room k X.A) (hK : X.K = K := by rfl) : OpR X (compareOp .NotEq) (rNeA K) := hK ▸ oNe hr
theorem kIn {k : Nat} (hr : Room k X.A) (hK : X.K = K := by rfl) : OpR X (compareOp .In) (rInA K) := hK ▸ oIn hr
theorem kNotIn {k : Nat} (hr : Room k X.A) (hK : X.K = K := by rfl) : OpR X (compareOp .NotIn) (rNotInA K) := hK ▸ oNotIn hr
theorem kIx (hK : X.K = K := by rfl) : IxR X (rIx K) := hK ▸ oIx
theorem kSl (hK : X.K = K := by rfl) : SlR X (rSlS K) := hK ▸ oSl
theorem pi_seqK {tg e : Expr} {te : TE} (he : PE X e te) (hK : X.K = K := by rfl) : PI X tg e (iSeq K te) := hK ▸ pi_seq he
theorem pa_starK {e : Expr} {es : List Expr} {te : TE} {t : TA} {sp : Pos} (ha : PE X e te) (hr : PA X es t) (hK : X.K = K := by rfl) : PA X (.Starred e sp :: es) (tStar K te t) := hK ▸ pa_star ha hr
theorem pg_tupK {es : List Expr} {k : Nat} {t : TGs} {n : Nat} {pos : Pos} (hc : X.calm = true) (h : PGs X es t) (hK : X.K = K := by rfl)
    (hn : (assignEach es X.env).length = n := by rfl) (hst : (assignEach es X.env).findIdx? (·.1) = none := by rfl) : PG X (.Tuple es k pos) (gTup K n t) := hK ▸ pg_tup hc h hn hst
theorem pi_enumK {e : Expr} {ta : TA} {p pos tpos : Pos} {elts : List Expr} {kk : Nat} (hg : Gl X "enumerate") (hm : X.mg "enumerate" = none) (ha : PA X [e] ta) (hK : X.K = K := by rfl) (hs : starEach [e] X.env = [(false, eval e X.env)] := by rfl) :
    PI X (.Tuple elts kk tpos) (.Call (.Name "enumerate" p) [e] [] pos) (iEnumS K ta) := hK ▸ pi_enumS hg hm ha hs
theorem pi_zipK {e e2 : Expr} {ta : TA} {p pos tpos : Pos} {elts : List Expr} {kk : Nat} (hg : Gl X "zip") (hm : X.mg "zip" = none) (ha : PA X [e, e2] ta) (hK : X.K = K := by rfl)
    (hs : starEach [e, e2] X.env = (false, eval e X.env) :: starEach [e2] X.env := by rfl) (hpl : (backTo pos (starEach [e2] X.env)).any (·.1) = false := by rfl) :
    PI X (.Tuple elts kk tpos) (.Call (.Name "zip" p) [e, e2] [] pos) (iZipS K ta) := hK ▸ pi_zipS hg hm ha hs hpl
def rLenA (K : PySem.W.Frag) : List V → Hp → VK → Prop := fun xs H Q => ∃ x n, xs = [x] ∧ LenV K x H n ∧ Q (.int n) H
theorem kLen (hK : X.K = K := by rfl) : CallR X (.builtin "len") (rLenA K) := hK ▸ call_len
theorem kMax (hc : X.calm = true) (hK : X.K = K := by rfl) : CallR X (.builtin "max") (rMaxA K) := hK ▸ call_maxA hc
theorem kMin (hc : X.calm = true) (hK : X.K = K := by rfl) : CallR X (.builtin "min") (rMinA K) := hK ▸ call_minA hc
theorem kSum (hc : X.calm = true) (hK : X.K = K := by rfl) : CallR X (.builtin "sum") (rSum K) := hK ▸ cr_sum hc
theorem kAny (hc : X.calm = true) (hK : X.K = K := by rfl) : CallR X (.builtin "any") (rAny K) := hK ▸ cr_any hc
theorem kAll (hc : X.calm = true) (hK : X.K = K := by rfl) : CallR X (.builtin "all") (rAll K) := hK ▸ cr_all hc
theorem kRepr {k : Nat} (hg : X.A.guards = some []) (hr : Room k X.A) (hK : X.K = K := by rfl) : CallR X (.builtin "repr") (rRepr K) := hK ▸ call_reprD hg hr.units
def rListA (K : PySem.W.Frag) : List V → Hp → VK → Prop := fun xs H Q => ∃ p ys, xs = [.ref p] ∧ (SqL K H p ys ∨ SqT K H p ys) ∧ ∀ l, H l = none → Q (.ref l) (upd H l (.lst ys))
theorem kList (hK : X.K = K := by rfl) : CallR X (.type "list") (rListA K) := hK ▸ call_list_of
def rTupA (K : PySem.W.Frag) : List V → Hp → VK → Prop := fun xs H Q => ∃ p ys, xs = [.ref p] ∧ ((SqL K H p ys ∧ ∀ l, H l = none → Q (.ref l) (upd H l (.tup ys))) ∨ (SqT K H p ys ∧ Q (.ref p) H))
theorem kTuple (hK : X.K = K := by rfl) : CallR X (.type "tuple") (rTupA K) := hK ▸ call_tuple_of
def rDivmod : List V → Hp → VK → Prop := fun xs H Q => ∃ i j, xs = [.int i, .int j] ∧ CDiv i j ∧ ∀ p, H p = none → Q (.ref p) (upd H p (.tup [.int (i / j), .int (i % j)]))
theorem kDivmod : CallR X (.builtin "divmod") rDivmod := call_divmod
def rInt1 : List V → Hp → VK → Prop := fun xs H Q => (∃ i, xs = [.int i] ∧ Q (.int i) H) ∨ ∃ k, xs = [.bl k] ∧ Q (.int (if k then 1 else 0)) H
theorem kInt : CallR X (.type "int") rInt1 := call_int1
theorem kTcount (hK : X.K = K := by rfl) : MtR X "tuple.count" (rCntT K) := hK ▸ mt_tcount
theorem bmK {e : Expr} {T : String} {r : V → List V → Hp → VK → Prop} {to : TE} {t : TA} (h : PE X e (tBM X.K T r to t)) (hK : X.K = K := by rfl) : PE X e (tBM K T r to t) := hK ▸ h
theorem bm0K {e : Expr} {T : String} {r : V → List V → Hp → VK → Prop} {to : TE} (h : PE X e (tBM0 X.K T r to)) (hK : X.K = K := by rfl) : PE X e (tBM0 K T r to) := hK ▸ h
def tTruth (K : PySem.W.Frag) (ta : TE) : TT := fun σ H Q => ta σ H fun x H1 => ∃ k, TruV K x H1 k ∧ Q k H1
theorem pt_truthK {a : Expr} {ta : TE} (ha : PE X a ta) (he : ∀ whole, isTrue a X.env whole = (do let v ← whole; standAt a.pos; holding [v] (truthy v))) (hK : X.K = K := by rfl) : PT X a (tTruth K ta) := hK ▸ pt_truth ha he
end
end L3

/-! tuples that are known to bear no dict: made by displays, by tuple(..), by * ; their methods. -/
namespace L3
open PySem PySem.Spec PyProof.Rows L2
/-- a tuple without a dict of its own -/
def NoD (o : Obj) : Prop := o.cls = .type "tuple" ∧ o.dict = none
def TupF (H : Hp) (p : Addr) (xs : List V) : Prop := ∃ o, NoD o ∧ H p = some (.frz o (.tup xs))
theorem TupF.sq {K : PySem.W.Frag} {H : Hp} {p : Addr} {xs : List V} (h : TupF H p xs) : SqT K H p xs := let ⟨o, _, e⟩ := h; .inl (.inr ⟨o, e⟩)
/-- a new tuple of the values xs -/
def NewT (xs : List V) (H : Hp) (Q : VK) : Prop := ∀ (p : Addr) (o : Obj), H p = none → NoD o → Q (.ref p) (upd H p (.frz o (.tup xs)))
section
variable {X : Cx} {pins : List (Addr × Obj)} {σ : St} {H : Hp} {s : Shared}
theorem newT_run {Q : VK} {xs : List V} {us : List Value} (I : Inv X pins σ H s) (r : Vals xs us) (hz : xs.length ≤ sizeLine) (q : NewT xs H Q) :
    EP X pins σ Q (.ref s.heap.objs.size) { s with heap := s.heap.push { cls := .type "tuple", data := .seq us.toArray } } := by
  have fr : H s.heap.objs.size = none := I.hok.fresh (Nat.le_refl _)
  refine ⟨.ref s.heap.objs.size, upd H s.heap.objs.size (.frz { cls := .type "tuple", data := .seq us.toArray } (.tup xs)), I.laid (t' := s.toks) (fun b u z => Heap.get?_push_of_some _ z) (Nat.le_refl _) ?_, rfl, q _ _ fr ⟨rfl, rfl⟩⟩
  exact ⟨Heap.get?_push_size _ rfl, hz, us, r, _, Heap.get?_push_size _ rfl, rfl, _, rfl⟩
/-- (e, ..) -/
def tTupF (t : TA) : TE := fun σ H Q => t σ H fun xs H1 => xs.length ≤ sizeLine ∧ NewT xs H1 Q
theorem pe_tupF {es : List Expr} {t : TA} {x1 : Nat} {pos : Pos} (h : PA X es t) : PE X (.Tuple es x1 pos) (tTupF t) := by
  refine ⟨fun pins s σ H Q I hq => wpAny_Tuple_spliced (thn (h.run pos pins s σ H _ I hq) ?_)⟩
  rintro us s1 ⟨xs, H1, I1, r, z, q⟩
  exact ⟨by rw [← r.length]; exact z, newT_run I1 r z q⟩
/-- tuple(e), e a list or a tuple -/
def rTupF (K : PySem.W.Frag) : List V → Hp → VK → Prop := fun xs H Q => ∃ p ys, xs = [.ref p] ∧ ((SqL K H p ys ∧ NewT ys H Q) ∨ (SqT K H p ys ∧ Q (.ref p) H))
theorem call_tupleF : CallR X (.type "tuple") (rTupF X.K) := by
  rintro pins s σ H xs us Q I r ⟨p, ys, rfl, h⟩
  obtain ⟨u, rfl, rx⟩ := vals1 r
  cases rx
  rcases h with ⟨hq, q⟩ | ⟨hq, q⟩
  · obtain ⟨its, rv, pl, hz⟩ := I.list hq
    have hl := rv.length
    refine call_tuple_list pl.isList (fun h2 kp => ?_) (by rw [List.size_toArray]; omega)
    have I1 : Inv X pins σ H { s with heap := h2 } := I.kept (t' := s.toks) kp
    exact newT_run I1 rv hz q
  · obtain ⟨its, rv, pl, hz⟩ := I.tuple hq
    exact call_tuple_same pl ⟨.ref p, H, I, rfl, q⟩
/-- a method of a tuple -/
def tBMT (r : V → List V → Hp → VK → Prop) (to : TE) (t : TA) : TE := fun σ H Q => to σ H fun x H1 => (∃ p xs, x = .ref p ∧ TupF H1 p xs) ∧ t σ H1 fun xs H2 => r x xs H2 Q
theorem pe_bmT {o e : Expr} {es : List Expr} {to : TE} {t : TA} {name : Str} {apos cpos : Pos} {id : String} {r : V → List V → Hp → VK → Prop} (pa : PlainAttrs "tuple") (slot : Slot "tuple" name id) (hty : typeOf (.builtin id) = pure (.type "method_descriptor")) (hm : MtR X id r) (ho : PE X o to) (ha : PA X (e :: es) t)
    (hbase : attributeBase o name X.env (eval o X.env) = eval o X.env := by rfl)
    (hfew : ((backTo cpos (starEach (e :: es) X.env)).all (fun x => !x.1) && (backToKw cpos (keywordEach [] X.env)).all (fun x => x.1.isSome) && decide ((e :: es).length + ([] : List Keyword).length + (if ([] : List Keyword).isEmpty then 0 else 1) < 30)) = true := by rfl)
    (hline : (apos.endLine == cpos.line) = true := by rfl) (hst : starEach (e :: es) X.env = (false, eval e X.env) :: starEach es X.env := by rfl) (hpl : (backTo cpos (starEach es X.env)).any (·.1) = false := by rfl) :
    PE X (.Call (.Attribute o name apos) (e :: es) [] cpos) (tBMT r to t) := by
  refine ⟨fun pins s σ H Q I h => wpAny_Call_method_late hbase hfew hline rfl (thn (ho.run pins s σ H _ I h) ?_)⟩
  rintro v s1 ⟨x, H1, I1, r1, ⟨p, xs, rfl, ob, ⟨hc, hd⟩, hp⟩, q1⟩
  cases r1
  obtain ⟨g, _⟩ := I1.hok p _ hp
  refine ⟨"tuple", id, pa, slot, hty, ⟨ob, g, hc⟩, fun a ea => by cases ea; exact ⟨ob, g, hd⟩, ?_⟩
  have hA := ha.run cpos pins s1 σ H1 _ I1 q1
  rw [hst] at hA ⊢
  refine Calls.callWith_builtin (by show (false || (backTo cpos (starEach es X.env)).any (·.1)) = false; rw [hpl]; rfl) (Calls.evalArgs_plain (thn hA ?_))
  rintro us s2 ⟨vs, H2, I2, r2, q2⟩
  exact hm pins s2 σ H2 (.ref p) vs (.ref p) us Q I2 rfl r2 q2
/-! ### t * k -/
open AutoSeq1 (wpAny_loadPart')
theorem tup_mul_one (l : Addr) (items : Array Value) (n : Nat) (dd : Option Addr) (sl : Array (Option Value)) (u : Tok) :
    Meets (Builtin.«tuple.__mul__» ⟨[.ref l, .int 1 u], []⟩) (fun _ R s => s.heap.get? l = some { cls := .type "tuple", dict := dd, data := .seq items n, slots := sl } ∧ R (.ok (.ret (.ref l))) s) :=
  .of_wp fun prog w A R s hh => by
    obtain ⟨hp, g, d, tk, os⟩ := s
    obtain ⟨hl, hR⟩ := hh
    have f1 := AutoSeq1.idx_int
    wp_walk using wpAny_loadPart' hl
    repeat (first
      | (refine wpAny_ite_false (by decide) ?_; wp_walk using wpAny_loadPart' hl)
      | (refine wpAny_ite_true (by rw [show ((1 : Int) == 1) = true from rfl, Bool.or_true]) ?_; wp_walk using wpAny_loadPart' hl))
    exact ⟨_, rfl, hR⟩
theorem tup_mul_none (l : Addr) (items : Array Value) (n : Nat) (dd : Option Addr) (sl : Array (Option Value)) (x : Int) (u : Tok) (c0 : (decide (x < -(2 ^ 63)) || decide (x ≥ 2 ^ 63)) = false) (c1 : (items.isEmpty || x == 1) = false) (c2 : (decide (x ≤ 0) || items.isEmpty) = true) :
    Meets (Builtin.«tuple.__mul__» ⟨[.ref l, .int x u], []⟩) (fun _ R s => s.heap.get? l = some { cls := .type "tuple", dict := dd, data := .seq items n, slots := sl } ∧
      R (.ok (.ret (.ref s.heap.objs.size))) { s with heap := s.heap.push { cls := .type "tuple", data := .seq #[] }, toks := s.toks }) :=
  .of_wp fun prog w A R s hh => by
    obtain ⟨hp, g, d, tk, os⟩ := s
    obtain ⟨hl, hR⟩ := hh
    have f1 := AutoSeq1.idx_int
    wp_walk using wpAny_loadPart' hl
    repeat (first
      | (refine wpAny_ite_false (decide_eq_false (by rw [c0]; exact Bool.false_ne_true)) ?_; wp_walk using wpAny_loadPart' hl)
      | (refine wpAny_ite_false (decide_eq_false (by rw [c1]; exact Bool.false_ne_true)) ?_; wp_walk using wpAny_loadPart' hl)
      | (refine wpAny_ite_true (decide_eq_true c2) ?_; wp_walk using wpAny_loadPart' hl))
    exact ⟨_, rfl, hR⟩
def rRepF (K : PySem.W.Frag) : R2 := fun x y H Q => ∃ l k xs, x = .ref l ∧ y = .int k ∧ SqT K H l xs ∧ xs ≠ [] ∧ -1000 ≤ k ∧ k ≤ 1000 ∧ xs.length ≤ 1000 ∧ (k = 1 → Q (.ref l) H) ∧ (k ≠ 1 → NewT (List.replicate k.toNat xs).flatten H Q)
theorem op_repF : OpR X (binaryOp .Mult) (rRepF X.K) := by
  rintro pins s σ H x y v u Q I rx ry ⟨l, k, xs, rfl, rfl, hT, hne, h0, h1, hz, q1, q2⟩
  cases rx
  obtain ⟨t, rfl⟩ := ry
  obtain ⟨its, r, ⟨⟨cls, dd, data, sl⟩, ho, hc, n, hd⟩, _⟩ := I.tuple hT
  cases (show cls = .type "tuple" from hc)
  cases (show data = .seq its.toArray n from hd)
  have len : its.length = xs.length := r.length.symm
  have pos : 0 < its.length := by
    rw [len]
    exact List.length_pos_iff.mpr hne
  have ie : its.toArray.isEmpty = false := by
    cases its with
    | nil => exact absurd pos (Nat.lt_irrefl 0)
    | cons a b => rfl
  have small : (decide (k < -(2 ^ 63)) || decide (k ≥ 2 ^ 63)) = false := by rw [decide_eq_false (by omega), decide_eq_false (by omega)]; rfl
  refine wpAny_binaryOp_repeat_ref (T := "tuple") (U := "int") (by decide) ⟨_, ho, rfl⟩ (fun s2 => typeIs_int s2 k t) noFill_tuple_mul F.fills_int_mul F.slot_int_rmul repeat_tuple F.slot_int_index.lookup
    (call_meets F.slot_int_rmul (typeIs_int s k t) F.entry_int_rmul (F.args_int_rmul_2 _ _) (int_rmul_tuple k t l its.toArray n dd sl) ⟨ho, rfl, ⟨_, ho, rfl⟩, ?_⟩)
  by_cases hk : k = 1
  · subst hk
    exact call_meets F.slot_tuple_mul ⟨_, ho, rfl⟩ F.entry_tuple_mul (F.args_tuple_mul_2 _ _) (tup_mul_one l its.toArray n dd sl t) ⟨ho, .ref l, H, I, rfl, q1 rfl⟩
  have ne1 : (its.toArray.isEmpty || k == 1) = false := by
    rw [ie, Bool.false_or]
    exact beq_eq_false_iff_ne.mpr hk
  have flat : (List.replicate k.toNat its).flatten.length ≤ 1000 * 1000 := by
    rw [PyProof.Rows.lm_len_rep_flat, len]
    exact Nat.mul_le_mul (by omega) hz
  have flat2 : (List.replicate k.toNat xs).flatten.length ≤ sizeLine := by
    rw [PyProof.Rows.lm_len_rep_flat]
    exact Nat.le_trans (Nat.mul_le_mul (show k.toNat ≤ 1000 by omega) hz) (by decide)
  by_cases hp : k ≤ 0
  · refine call_meets F.slot_tuple_mul ⟨_, ho, rfl⟩ F.entry_tuple_mul (F.args_tuple_mul_2 _ _) (tup_mul_none l its.toArray n dd sl k t small ne1 (by rw [decide_eq_true hp]; rfl)) ⟨ho, ?_⟩
    have e0 : k.toNat = 0 := by omega
    have q3 := q2 hk
    rw [e0] at q3
    exact newT_run I .nil (Nat.zero_le _) q3
  · have sz : its.toArray.size = xs.length := by rw [List.size_toArray, len]
    have prod : ((its.toArray.size : Nat) : Int) * k ≤ 1000000 := by
      rw [sz]
      have a1 : ((xs.length : Nat) : Int) * k ≤ 1000 * k := Int.mul_le_mul_of_nonneg_right (by omega) (by omega)
      omega
    have few : Builtin.Tuple.tupleTooMany (((its.toArray.size : Nat) : Int) * k) = false := by
      unfold Builtin.Tuple.tupleTooMany
      rw [sizeLine_eq]
      exact decide_eq_false (by omega)
    refine call_meets F.slot_tuple_mul ⟨_, ho, rfl⟩ F.entry_tuple_mul (F.args_tuple_mul_2 _ _)
      (tuple_mulW l its.toArray n dd sl k t small ne1 (by rw [ie, Bool.or_false]; exact decide_eq_false hp) (by omega) few (by rw [size_rep, List.size_toArray]; exact Nat.le_trans flat (by decide))) ⟨ho, ?_⟩
    rw [size_rep]
    exact newT_run I (r.rep k.toNat) flat2 (q2 hk)
def rMulF (K : PySem.W.Frag) : R2 := fun x y H Q => rI CMul (fun i j => .int (i * j)) x y H Q ∨ rRepF K x y H Q
theorem kMulF {K : PySem.W.Frag} (hK : X.K = K := by rfl) : OpR X (binaryOp .Mult) (rMulF K) := hK ▸ op_mul.or op_repF
theorem kTupleF {K : PySem.W.Frag} (hK : X.K = K := by rfl) : CallR X (.type "tuple") (rTupF K) := hK ▸ call_tupleF
theorem pe_revK {K : PySem.W.Frag} {e : Expr} {te : TE} {k : Nat} {p1 p2 p3 pos : Pos} (he : PE X e te) (hK : X.K = K := by rfl) : PE X (.Subscript e (.Slice none none (some (.UnaryOp .USub (.Constant (.int 1) k p1) p2)) p3) pos) (tRevL K te) := hK ▸ pe_revL he
/-- a statement, then the rest, joined by a word of the state between them -/
def tJoin (t u : TS) : TS := fun D σ H => ∃ Mid : L2.St → Hp → Prop, t { D with nx := Mid } σ H ∧ ∀ τ G, Mid τ G → u D τ G
theorem pss_join {st : Stmt} {rest : List Stmt} {t u : TS} (h1 : PS X st t) (h2 : PSs X rest u) : PSs X (st :: rest) (tJoin t u) := by
  refine ⟨fun pins s σ H D I ⟨Mid, hm, hu⟩ => wpAny_execs_cons (thn (h1.run pins s σ H { D with nx := Mid } I hm) fun f s1 q => ?_)⟩
  match f, q with
  | .next, ⟨τ, G, J, q⟩ => exact h2.run pins s1 τ G D J (hu τ G q)
  | .ret v, q => exact q
  | .brk, q => exact q
  | .cont, q => exact q
/-- an expression whose ways are joined -/
def tJoinE (t : TE) : TE := fun σ H Q => ∃ Mid : VK, t σ H Mid ∧ ∀ v G, Mid v G → Q v G
theorem pe_join {e : Expr} {t : TE} (h : PE X e t) : PE X e (tJoinE t) := by
  refine ⟨fun pins s σ H Q I ⟨Mid, hm, hq⟩ => thn (h.run pins s σ H Mid I hm) ?_⟩
  rintro u s1 ⟨v, G, J, r, q⟩
  exact ⟨v, G, J, r, hq v G q⟩
end
end L3

/-! readings, step by step: I is what stays as it is, ps what is the def's own to change. -/
namespace L3
open PySem PySem.Spec PyProof.Rows L2
def Ex (I J : Hp) : Prop := ∀ a o, I a = some o → J a = some o
theorem Ex.refl (I : Hp) : Ex I I := fun _ _ h => h
theorem Ex.trans {I J L : Hp} (h : Ex I J) (k : Ex J L) : Ex I L := fun a o e => k a o (h a o e)
theorem Ex.back {I J L : Hp} (k : Ex J L) (h : Ex I J) : Ex I L := h.trans k
theorem Ex.new {I : Hp} {p : Addr} {o : HO} (h : I p = none) : Ex I (upd I p o) := fun a u e => by
  rw [upd_ne (ne_of_none e h)]
  exact e
abbrev PL := List (Addr × HO)
structure Own (I : Hp) (ps : PL) (H : Hp) : Prop where
  ex : Ex I H
  pr : ∀ p ∈ ps, H p.1 = some p.2 ∧ I p.1 = none
  nd : (ps.map Prod.fst).Nodup
/-! ### facts that stay -/
section
variable {K : PySem.W.Frag} {I J : Hp} {a : Addr} {xs : List V} {o : HO} {v : V} {d : PyData}
theorem At.up (e : Ex I J) (h : I a = some o) : J a = some o := e a o h
theorem Rd.up {u : HO} (e : Ex I J) (h : Rd I a u) : Rd J a u := by
  rcases h with h | ⟨o, h⟩
  · exact .inl (e _ _ h)
  · exact .inr ⟨o, e _ _ h⟩
theorem SqT.up (e : Ex I J) (h : SqT K I a xs) : SqT K J a xs := h.elim (fun h => .inl (Rd.up e h)) .inr
theorem SqL.up (e : Ex I J) (h : SqL K I a xs) : SqL K J a xs := h.elim (fun h => .inl (Rd.up e h)) .inr
theorem TupF.up (e : Ex I J) (h : TupF I a xs) : TupF J a xs := let ⟨o, n, q⟩ := h; ⟨o, n, e _ _ q⟩
mutual
theorem Dp.up (e : Ex I J) : ∀ {v : V} {d : PyData}, Dp K I v d → Dp K J v d
  | _, _, .non => .non
  | _, _, .bl b => .bl b
  | _, _, .int i => .int i
  | _, _, .str x => .str x
  | _, _, .lst h hs => .lst (SqL.up e h) (DpAll.up e hs)
  | _, _, .tup h hs => .tup (SqT.up e h) (DpAll.up e hs)
theorem DpAll.up (e : Ex I J) : ∀ {vs : List V} {ds : List PyData}, DpAll K I vs ds → DpAll K J vs ds
  | _, _, .nil => .nil
  | _, _, .cons h hs => .cons (Dp.up e h) (DpAll.up e hs)
end
theorem dpAll_ints : ∀ ns : List Int, DpAll K I (ns.map V.int) (ns.map PyData.int)
  | [] => .nil
  | n :: ns => .cons (.int n) (dpAll_ints ns)
theorem dp_ints {ns : List Int} (h : SqT K I a (ns.map V.int)) : Dp K I (.ref a) (.tuple (ns.map .int)) := .tup h (dpAll_ints ns)
end
/-! ### the state -/
section
variable {K : PySem.W.Frag} {I J H H2 : Hp} {ps qs : PL} {a p l : Addr} {xs : List V} {o u : HO} {v : V} {Q : VK}
theorem Own.sT (O : Own I ps H) (h : SqT K I a xs) : SqT K H a xs := SqT.up O.ex h
theorem Own.sL (O : Own I ps H) (h : SqL K I a xs) : SqL K H a xs := SqL.up O.ex h
theorem Own.dp {d : PyData} (O : Own I ps H) (h : Dp K I v d) : Dp K H v d := Dp.up O.ex h
theorem Own.at (O : Own I ps H) (h : I a = some o) : H a = some o := O.ex _ _ h
theorem Own.ix {i : Nat} (O : Own I ps H) (h : ps[i]? = some (l, o)) : H l = some o := (O.pr _ (List.mem_of_getElem? h)).1
theorem Own.none (O : Own I ps H) (h : H p = none) : I p = none := by
  cases q : I p with
  | none => rfl
  | some o => rw [O.ex _ _ q] at h; cases h
theorem Own.notin (O : Own I ps H) (h : H p = Option.none) : p ∉ ps.map Prod.fst := fun hm => by
  obtain ⟨q, hq, e⟩ := List.mem_map.mp hm
  have := (O.pr q hq).1
  rw [e, h] at this
  cases this
/-- the heap grows by what is of no matter -/
theorem Own.mono (O : Own I ps H) (e : Ex H H2) : Own I ps H2 := ⟨O.ex.trans e, fun p hp => ⟨e _ _ (O.pr p hp).1, (O.pr p hp).2⟩, O.nd⟩
theorem Own.skip (O : Own I ps H) (h : H p = Option.none) : Own I ps (upd H p o) := O.mono (Ex.new h)
/-- a new object that stays as it is -/
theorem Own.keep (O : Own I ps H) (h : H p = Option.none) : Own (upd I p o) ps (upd H p o) where
  ex := fun b w e => by
    by_cases hb : b = p
    · subst hb; rw [upd_same] at e ⊢; exact e
    · rw [upd_ne hb] at e ⊢; exact O.ex _ _ e
  pr := fun q hq => by
    have ne : q.1 ≠ p := ne_of_none (O.pr q hq).1 h
    rw [upd_ne ne, upd_ne ne]
    exact O.pr q hq
  nd := O.nd
/-- a new object of one's own -/
theorem Own.own (O : Own I ps H) (h : H p = Option.none) : Own I ((p, o) :: ps) (upd H p o) where
  ex := O.ex.trans (Ex.new h)
  pr := fun q hq => by
    rcases List.mem_cons.mp hq with rfl | hq
    · exact ⟨upd_same, O.none h⟩
    · rw [upd_ne (ne_of_none (O.pr q hq).1 h)]
      exact O.pr q hq
  nd := List.nodup_cons.mpr ⟨O.notin h, O.nd⟩
theorem nodup_inj {α β : Type} {f : α → β} : ∀ {l : List α} {i j : Nat} {x y : α}, (l.map f).Nodup → l[i]? = some x → l[j]? = some y → f x = f y → i = j := by
  intro l i j x y nd hi hj e
  have h1 := (List.getElem?_eq_some_iff.mp hi).1
  have h2 := (List.getElem?_eq_some_iff.mp hj).1
  have e1 : (l.map f)[i]'(by simpa using h1) = f x := by simp [(List.getElem?_eq_some_iff.mp hi).2]
  have e2 : (l.map f)[j]'(by simpa using h2) = f y := by simp [(List.getElem?_eq_some_iff.mp hj).2]
  exact (List.getElem_inj nd).mp (by rw [e1, e2, e])
/-- an own object changes -/
theorem Own.set {i : Nat} (O : Own I ps H) (h : ps[i]? = some (l, o)) : Own I (ps.set i (l, u)) (upd H l u) where
  ex := fun b w e => by
    have hn := (O.pr _ (List.mem_of_getElem? h)).2
    rw [upd_ne (ne_of_none e hn)]
    exact O.ex _ _ e
  pr := fun q hq => by
    obtain ⟨j, hj⟩ := List.getElem?_of_mem hq
    rw [List.getElem?_set] at hj
    by_cases hij : i = j
    · rw [if_pos hij] at hj
      split at hj
      · cases hj
        exact ⟨upd_same, (O.pr _ (List.mem_of_getElem? h)).2⟩
      · cases hj
    · rw [if_neg hij] at hj
      have ne : q.1 ≠ l := fun e => hij (nodup_inj O.nd h hj e.symm)
      rw [upd_ne ne]
      exact O.pr q (List.mem_of_getElem? hj)
  nd := by
    have e : (ps.set i (l, u)).map Prod.fst = ps.map Prod.fst := by
      rw [List.map_set]
      have h1 := (List.getElem?_eq_some_iff.mp h).1
      apply List.ext_getElem?
      intro j
      rw [List.getElem?_set]
      split
      · rename_i hij
        subst hij
        obtain ⟨h3, h4⟩ := List.getElem?_eq_some_iff.mp h
        simp [h3, h4]
      · rfl
    rw [e]
    exact O.nd
/-- an own object is changed no more -/
theorem Own.freeze (O : Own I ((p, o) :: ps) H) : Own (upd I p o) ps H where
  ex := fun b w e => by
    by_cases hb : b = p
    · subst hb
      rw [upd_same] at e
      cases e
      exact (O.pr _ List.mem_cons_self).1
    · rw [upd_ne hb] at e
      exact O.ex _ _ e
  pr := fun q hq => by
    have ne : q.1 ≠ p := fun e => (List.nodup_cons.mp O.nd).1 (by rw [← e]; exact List.mem_map.mpr ⟨q, hq, rfl⟩)
    rw [upd_ne ne]
    exact O.pr q (List.mem_cons_of_mem _ hq)
  nd := (List.nodup_cons.mp O.nd).2
theorem Own.exf (O : Own I ((p, o) :: ps) H) : Ex I (upd I p o) := Ex.new (O.pr _ List.mem_cons_self).2
theorem Own.drop (O : Own I ((p, o) :: ps) H) : Own I ps H := ⟨O.ex, fun q hq => O.pr q (List.mem_cons_of_mem _ hq), (List.nodup_cons.mp O.nd).2⟩
theorem Own.perm (O : Own I ps H) (h : qs.Perm ps) : Own I qs H := ⟨O.ex, fun q hq => O.pr q (h.mem_iff.mp hq), (h.map _).nodup_iff.mpr O.nd⟩
theorem own_start (H : Hp) : Own H [] H := ⟨Ex.refl H, fun _ h => absurd h List.not_mem_nil, List.nodup_nil⟩
end
/-! ### the same beside a deck: a list of a list of ints, an int, a count -/
/-- what a deck holds -/
def DkOk (n m k : Int) (cells : List Int) : Prop := 0 ≤ m ∧ m < 4294967296 ∧ 0 ≤ k ∧ k ≤ n ∧ cells.length ≤ 64
abbrev dkP (d c : Addr) (m k : Int) (cells : List Int) (ps : PL) : PL := (d, .lst [.ref c, .int m, .int k]) :: (c, .lst (cells.map V.int)) :: ps
inductive Kn where
  | own
  | deck (d : Addr) (n : Int)
def Sta : Kn → Hp → PL → Hp → Prop
  | .own, I, ps, H => Own I ps H
  | .deck d n, I, ps, H => ∃ (c : Addr) (m k : Int) (cells : List Int), DkOk n m k cells ∧ Own I (dkP d c m k cells ps) H
section
variable {K : PySem.W.Frag} {κ : Kn} {I J H H2 : Hp} {ps qs : PL} {a p l : Addr} {xs : List V} {o u : HO} {v : V} {Q : VK}
theorem Sta.ex : ∀ {κ : Kn}, Sta κ I ps H → Ex I H
  | .own, O => Own.ex O
  | .deck _ _, ⟨_, _, _, _, _, O⟩ => O.ex
theorem Sta.mono : ∀ {κ : Kn}, Sta κ I ps H → Ex H H2 → Sta κ I ps H2
  | .own, O, e => Own.mono O e
  | .deck _ _, ⟨c, m, k, cs, h, O⟩, e => ⟨c, m, k, cs, h, O.mono e⟩
theorem Sta.skip (O : Sta κ I ps H) (h : H p = none) : Sta κ I ps (upd H p o) := O.mono (Ex.new h)
theorem Sta.none (O : Sta κ I ps H) (h : H p = none) : I p = none := by
  cases q : I p with
  | none => rfl
  | some o => rw [O.ex _ _ q] at h; cases h
theorem Sta.keep : ∀ {κ : Kn}, Sta κ I ps H → H p = Option.none → Sta κ (upd I p o) ps (upd H p o)
  | .own, O, h => Own.keep O h
  | .deck _ _, ⟨c, m, k, cs, g, O⟩, h => ⟨c, m, k, cs, g, O.keep h⟩
theorem perm2 {α : Type} (x y z : α) (l : List α) : (x :: y :: z :: l).Perm (z :: x :: y :: l) := ((List.Perm.swap z y l).cons x).trans (List.Perm.swap z x (y :: l))
theorem Sta.own : ∀ {κ : Kn}, Sta κ I ps H → H p = Option.none → Sta κ I ((p, o) :: ps) (upd H p o)
  | .own, O, h => Own.own O h
  | .deck _ _, ⟨c, m, k, cs, g, O⟩, h => ⟨c, m, k, cs, g, (O.own h).perm (perm2 ..)⟩
theorem Sta.ix : ∀ {κ : Kn} {i : Nat}, Sta κ I ps H → ps[i]? = some (l, o) → H l = some o
  | .own, i, O, h => Own.ix (i := i) O h
  | .deck _ _, i, ⟨c, m, k, cs, g, O⟩, h => Own.ix (i := i + 2) O h
theorem Sta.set : ∀ {κ : Kn} {i : Nat}, Sta κ I ps H → ps[i]? = some (l, o) → Sta κ I (ps.set i (l, u)) (upd H l u)
  | .own, i, O, h => Own.set (i := i) O h
  | .deck _ _, i, ⟨c, m, k, cs, g, O⟩, h => ⟨c, m, k, cs, g, Own.set (i := i + 2) O h⟩
theorem Sta.freeze : ∀ {κ : Kn}, Sta κ I ((p, o) :: ps) H → Sta κ (upd I p o) ps H
  | .own, O => Own.freeze O
  | .deck _ _, ⟨c, m, k, cs, g, O⟩ => ⟨c, m, k, cs, g, Own.freeze (O.perm (perm2 ..).symm)⟩
theorem Sta.exf : ∀ {κ : Kn}, Sta κ I ((p, o) :: ps) H → Ex I (upd I p o)
  | .own, O => Own.exf O
  | .deck _ _, ⟨c, m, k, cs, g, O⟩ => Own.exf (O.perm (perm2 ..).symm)
theorem Sta.drop : ∀ {κ : Kn}, Sta κ I ((p, o) :: ps) H → Sta κ I ps H
  | .own, O => Own.drop O
  | .deck _ _, ⟨c, m, k, cs, g, O⟩ => ⟨c, m, k, cs, g, Own.drop (O.perm (perm2 ..).symm)⟩
theorem Sta.perm : ∀ {κ : Kn}, Sta κ I ps H → qs.Perm ps → Sta κ I qs H
  | .own, O, h => Own.perm O h
  | .deck _ _, ⟨c, m, k, cs, g, O⟩, h => ⟨c, m, k, cs, g, O.perm ((h.cons _).cons _)⟩
theorem Sta.up {d : Addr} {n n2 : Int} (O : Sta (.deck d n) I ps H) (h : n ≤ n2) : Sta (.deck d n2) I ps H := by
  obtain ⟨c, m, k, cs, ⟨g1, g2, g3, g4, g5⟩, O⟩ := O
  exact ⟨c, m, k, cs, ⟨g1, g2, g3, by omega, g5⟩, O⟩
theorem Own.back (O : Own J ps H) (e : Ex I J) : Own I ps H := ⟨e.trans O.ex, fun p hp => ⟨(O.pr p hp).1, by
  cases q : I p.1 with
  | none => rfl
  | some o =>
    have := (O.pr p hp).2
    rw [e _ _ q] at this
    cases this⟩, O.nd⟩
theorem Sta.back : ∀ {κ : Kn}, Sta κ J ps H → Ex I J → Sta κ I ps H
  | .own, O, e => Own.back O e
  | .deck _ _, ⟨c, m, k, cs, g, O⟩, e => ⟨c, m, k, cs, g, O.back e⟩
theorem Sta.sT (O : Sta κ I ps H) (h : SqT K I a xs) : SqT K H a xs := SqT.up O.ex h
theorem Sta.sL (O : Sta κ I ps H) (h : SqL K I a xs) : SqL K H a xs := SqL.up O.ex h
theorem Sta.pL {i : Nat} (O : Sta κ I ps H) (h : ps[i]? = some (l, .lst xs)) : SqL K H l xs := SqL.of (O.ix h)
/-- a new tuple, a new list, kept as they are -/
theorem Sta.newT (O : Sta κ I ps H) (k : ∀ p J H2, Sta κ J ps H2 → Ex I J → TupF J p xs → Q (.ref p) H2) : NewT xs H Q := fun p o hp nd =>
  k p _ _ (O.keep hp) (Ex.new (O.none hp)) ⟨o, nd, upd_same⟩
theorem Sta.newO (O : Sta κ I ps H) (k : ∀ p J H2, Sta κ J ps H2 → Ex I J → J p = some o → Q (.ref p) H2) : ∀ p, H p = Option.none → Q (.ref p) (upd H p o) := fun p hp =>
  k p _ _ (O.keep hp) (Ex.new (O.none hp)) upd_same
theorem Sta.newP (O : Sta κ I ps H) (k : ∀ p H2, Sta κ I ((p, o) :: ps) H2 → Q (.ref p) H2) : ∀ p, H p = Option.none → Q (.ref p) (upd H p o) := fun p hp => k p _ (O.own hp)
end
end L3

/-! the steps of readings. -/
namespace L3
open PySem PySem.Spec PyProof.Rows L2
section
variable {K : PySem.W.Frag} {κ : Kn} {I J H H1 H2 : Hp} {ps qs : PL} {a p l b : Addr} {xs ys : List V} {o u : HO} {v x y : V} {Q : VK} {σ σ2 : St} {D : Ends} {i j : Nat}
/-! statements -/
theorem r_seq {t1 t2 : TS} (h : t1 { D with nx := t2 D } σ H) : tSeq t1 t2 D σ H := h
theorem r_next (h : D.nx σ H) : tNext D σ H := h
theorem r_nx {f : St → Hp → Prop} {r : VK} {bk ct : St → Hp → Prop} (h : f σ H) : Ends.nx ⟨f, r, bk, ct⟩ σ H := h
theorem r_rt {f : St → Hp → Prop} {r : VK} {bk ct : St → Hp → Prop} (h : r v H) : Ends.rt ⟨f, r, bk, ct⟩ v H := h
theorem r_bk {f : St → Hp → Prop} {r : VK} {bk ct : St → Hp → Prop} (h : bk σ H) : Ends.bk ⟨f, r, bk, ct⟩ σ H := h
theorem r_ct {f : St → Hp → Prop} {r : VK} {bk ct : St → Hp → Prop} (h : ct σ H) : Ends.ct ⟨f, r, bk, ct⟩ σ H := h
theorem r_break (h : D.bk σ H) : tBreak D σ H := h
theorem r_cont (h : D.ct σ H) : tCont D σ H := h
theorem r_drop {te : TE} (h : te σ H fun _ H1 => D.nx σ H1) : tDrop te D σ H := h
theorem r_ret {te : TE} (h : te σ H D.rt) : tRet te D σ H := h
theorem r_retN (h : D.rt .non H) : tRetN D σ H := h
theorem r_ifs {c : TT} {t1 t2 : TS} (h : c σ H fun b H1 => if b = true then t1 D σ H1 else t2 D σ H1) : tIfS c t1 t2 D σ H := h
theorem r_asg {te : TE} {g : TG} (h : te σ H fun x H1 => g x σ H1 D.nx) : tAsg te g D σ H := h
theorem r_par {ta : TA} (h : ta σ H fun vs H1 => ∃ v w, vs = [v, w] ∧ D.nx ((σ.set i (some v)).set j (some w)) H1) : tPar i j ta D σ H := h
theorem r_par3 {ta : TA} {l : Nat} (h : ta σ H fun vs H1 => ∃ u v w, vs = [u, v, w] ∧ D.nx (((σ.set i (some u)).set j (some v)).set l (some w)) H1) : tPar3 i j l ta D σ H := h
theorem r_aug {te : TE} {ti : TIp} (hx : σ[i]? = some (some x)) (h : te σ H fun y H1 => ti x y H1 fun z H2 => D.nx (σ.set i (some z)) H2) : tAug i te ti D σ H := ⟨x, hx, h⟩
/-! targets -/
theorem r_gname {R : St → Hp → Prop} (e : σ.set i (some v) = σ2) (h : R σ2 H) : gName i v σ H R := by
  show R (σ.set i (some v)) H
  rw [e]
  exact h
theorem r_gnil {R : St → Hp → Prop} (h : R σ H) : gNil [] σ H R := ⟨rfl, h⟩
theorem r_gcons {R : St → Hp → Prop} {t : TG} {w : TGs} (h : t v σ H fun σ1 H1 => w xs σ1 H1 R) : gCons t w (v :: xs) σ H R := ⟨v, xs, rfl, h⟩
theorem r_gtup {R : St → Hp → Prop} {n : Nat} {t : TGs} (O : Sta κ I ps H) (h : SqT K I a xs) (hl : xs.length = n) (k : t xs σ H R) : gTup K n t (.ref a) σ H R := ⟨a, xs, rfl, O.sT h, hl, k⟩
/-! expressions -/
theorem r_var (h : σ[i]? = some (some v)) (k : Q v H) : tVar i σ H Q := ⟨v, h, k⟩
theorem r_c (k : Q v H) : tC v σ H Q := k
theorem r_op {r : R2} {ta tb : TE} (h : ta σ H fun x H1 => tb σ H1 fun y H2 => r x y H2 Q) : tOp r ta tb σ H Q := h
theorem r_un {r : V → Hp → VK → Prop} {ta : TE} (h : ta σ H fun x H1 => r x H1 Q) : tUn r ta σ H Q := h
theorem r_rU {g : Int → V} {i : Int} (k : Q (g i) H) : rU g (.int i) H Q := ⟨i, rfl, k⟩
theorem r_I0 {g : Int → Int → V} {i j : Int} (k : Q (g i j) H) : rI0 g (.int i) (.int j) H Q := ⟨i, j, rfl, rfl, k⟩
theorem r_I {C : Int → Int → Prop} {g : Int → Int → V} {i j : Int} (hc : C i j) (k : Q (g i j) H) : rI C g (.int i) (.int j) H Q := ⟨i, j, rfl, rfl, hc, k⟩
theorem r_addI {i j : Int} (k : Q (.int (i + j)) H) : rAddA K (.int i) (.int j) H Q := .inl ⟨i, j, rfl, rfl, k⟩
theorem r_mulI {i j : Int} (hc : CMul i j) (k : Q (.int (i * j)) H) : rMulF K (.int i) (.int j) H Q := .inl ⟨i, j, rfl, rfl, hc, k⟩
theorem r_addT (O : Sta κ I ps H) (ha : SqT K I a xs) (hb : SqT K I b ys) (hl : xs.length + ys.length ≤ sizeLine) (k : ∀ p J H2, Sta κ J ps H2 → Ex I J → SqT K J p (xs ++ ys) → Q (.ref p) H2) : rAddA K (.ref a) (.ref b) H Q := by
  refine .inr (.inl ⟨a, b, xs, ys, rfl, rfl, O.sT ha, O.sT hb, hl, fun e => ?_, fun _ e => ?_, fun _ _ => O.newO fun p J H2 O2 e h => k p J H2 O2 e (SqT.of h)⟩)
  · refine k b I H O (Ex.refl I) ?_
    rw [e]
    exact hb
  · refine k a I H O (Ex.refl I) ?_
    rw [e, List.append_nil]
    exact ha
theorem r_addLp (O : Sta κ I ps H) (ha : H a = some (.lst xs)) (hb : H b = some (.lst ys)) (hl : xs.length + ys.length ≤ sizeLine) (k : ∀ p J H2, Sta κ J ps H2 → Ex I J → J p = some (.lst (xs ++ ys)) → Q (.ref p) H2) : rAddA K (.ref a) (.ref b) H Q :=
  .inr (.inr (.inl ⟨a, b, xs, ys, rfl, rfl, ha, hb, hl, O.newO k⟩))
theorem r_repF {k : Int} (O : Sta κ I ps H) (ha : TupF I a xs) (hne : xs ≠ []) (h0 : -1000 ≤ k) (h1 : k ≤ 1000) (hl : xs.length ≤ 1000) (c : ∀ p J H2, Sta κ J ps H2 → Ex I J → TupF J p (List.replicate k.toNat xs).flatten → Q (.ref p) H2) : rMulF K (.ref a) (.int k) H Q := by
  refine .inr ⟨a, k, xs, rfl, rfl, O.sT ha.sq, hne, h0, h1, hl, fun e => ?_, fun _ => O.newT c⟩
  subst e
  refine c a I H O (Ex.refl I) ?_
  have : (List.replicate (1 : Int).toNat xs).flatten = xs := by simp
  rw [this]
  exact ha
theorem r_eqS (hs : scal x y = true) (k : Q (.bl (decide (x = y))) H) : rEqA K x y H Q := .inl ⟨hs, k⟩
theorem r_neS (hs : scal x y = true) (k : Q (.bl (!decide (x = y))) H) : rNeA K x y H Q := .inl ⟨hs, k⟩
theorem r_eqI {i j : Int} (k : Q (.bl (decide (i = j))) H) : rEqA K (.int i) (.int j) H Q := .inl ⟨rfl, by
  have e : decide (V.int i = V.int j) = decide (i = j) := by simp
  rw [e]; exact k⟩
theorem r_neI {i j : Int} (k : Q (.bl (!decide (i = j))) H) : rNeA K (.int i) (.int j) H Q := .inl ⟨rfl, by
  have e : decide (V.int i = V.int j) = decide (i = j) := by simp
  rw [e]; exact k⟩
theorem r_eqD {d e : PyData} (O : Sta κ I ps H) (hd : Dp K I x d) (he : Dp K I y e) (h1 : SeqAt.shaped d = true) (h2 : SeqAt.shaped e = true) (k : Q (.bl (PyData.eqv d e)) H) : rEqA K x y H Q := .inr ⟨d, e, Dp.up O.ex hd, Dp.up O.ex he, h1, h2, k⟩
theorem r_neD {d e : PyData} (O : Sta κ I ps H) (hd : Dp K I x d) (he : Dp K I y e) (h1 : SeqAt.shaped d = true) (h2 : SeqAt.shaped e = true) (k : Q (.bl (!PyData.eqv d e)) H) : rNeA K x y H Q := .inr ⟨d, e, Dp.up O.ex hd, Dp.up O.ex he, h1, h2, k⟩
theorem r_isN (k : Q (.bl (decide (x = .non))) H) : rIsNone x .non H Q := ⟨rfl, k⟩
theorem r_notN (k : Q (.bl (!decide (x = .non))) H) : rIsNotNone x .non H Q := ⟨rfl, k⟩
theorem r_ixT {i : Int} (O : Sta κ I ps H) (h : SqT K I a xs) (e : atI xs i = some v) (k : Q v H) : rIx K (.ref a) (.int i) H Q := .inr (.inl ⟨a, xs, i, v, rfl, rfl, O.sT h, e, k⟩)
theorem r_ixL {i : Int} (O : Sta κ I ps H) (h : SqL K H a xs) (e : atI xs i = some v) (k : Q v H) : rIx K (.ref a) (.int i) H Q := .inl ⟨a, xs, i, v, rfl, rfl, h, e, k⟩
theorem cut_whole {xs : List V} {lo hi : Option Int} (h : HT.sIx xs.length 0 lo = 0 ∧ HT.sIx xs.length xs.length hi = xs.length) : cutV xs lo hi = xs := by
  unfold cutV
  rw [h.1, h.2]
  simp
theorem r_slT {lo hi : Option Int} (O : Sta κ I ps H) (h : SqT K I a xs) (k : ∀ p J H2, Sta κ J ps H2 → Ex I J → SqT K J p (cutV xs lo hi) → Q (.ref p) H2) : rSlS K (.ref a) lo hi H Q := by
  refine .inr ⟨a, xs, rfl, O.sT h, fun w => ?_, fun _ => O.newO fun p J H2 O2 e q => k p J H2 O2 e (SqT.of q)⟩
  refine k a I H O (Ex.refl I) ?_
  rw [cut_whole w]
  exact h
theorem r_slL {lo hi : Option Int} (O : Sta κ I ps H) (h : SqL K H a xs) (k : ∀ p J H2, Sta κ J ps H2 → Ex I J → J p = some (.lst (cutV xs lo hi)) → Q (.ref p) H2) : rSlS K (.ref a) lo hi H Q := .inl ⟨a, xs, rfl, h, O.newO k⟩
theorem r_sl {r : V → Option Int → Option Int → Hp → VK → Prop} {te : TE} {tl th : TO} (h : te σ H fun x H1 => tl σ H1 fun lo H2 => th σ H2 fun hi H3 => r x lo hi H3 Q) : tSl r te tl th σ H Q := h
theorem r_nopart {R : Option Int → Hp → Prop} (h : R none H) : tNoPart σ H R := h
theorem r_part {R : Option Int → Hp → Prop} {t : TE} (h : t σ H fun x H1 => ∃ i, x = .int i ∧ R (some i) H1) : tPart t σ H R := h
theorem r_nil {R : List V → Hp → Prop} (h : R [] H) : tNil σ H R := h
theorem r_cons {R : List V → Hp → Prop} {ta : TE} {tr : TA} (h : ta σ H fun x H1 => tr σ H1 fun xs H2 => R (x :: xs) H2) : tCons ta tr σ H R := h
theorem r_star {R : List V → Hp → Prop} {te : TE} {tr : TA} (h : te σ H fun x H1 => ∃ a xs, x = .ref a ∧ (SqT K H1 a xs ∨ SqL K H1 a xs) ∧ tr σ H1 fun ys H2 => R (xs ++ ys) H2) : tStar K te tr σ H R := h
theorem r_starT {P : List V → Prop} (O : Sta κ I ps H) (h : SqT K I a xs) (k : P xs) : ∃ a2 xs2, V.ref a = .ref a2 ∧ (SqT K H a2 xs2 ∨ SqL K H a2 xs2) ∧ P xs2 := ⟨a, xs, rfl, .inl (O.sT h), k⟩
theorem r_tupF {t : TA} (h : t σ H fun xs H1 => xs.length ≤ sizeLine ∧ NewT xs H1 Q) : tTupF t σ H Q := h
def NewL (xs : List V) (H : Hp) (Q : VK) : Prop := ∀ p, H p = none → Q (.ref p) (upd H p (.lst xs))
theorem r_lst {t : TA} (h : t σ H fun xs H1 => xs.length ≤ sizeLine ∧ NewL xs H1 Q) : tLst t σ H Q := h
theorem r_newT (O : Sta κ I ps H) (hl : xs.length ≤ sizeLine) (k : ∀ p J H2, Sta κ J ps H2 → Ex I J → TupF J p xs → Q (.ref p) H2) : xs.length ≤ sizeLine ∧ NewT xs H Q := ⟨hl, O.newT k⟩
/-- a list that stays as it is; a list of one's own -/
theorem r_newL (O : Sta κ I ps H) (hl : xs.length ≤ sizeLine) (k : ∀ p J H2, Sta κ J ps H2 → Ex I J → J p = some (.lst xs) → Q (.ref p) H2) : xs.length ≤ sizeLine ∧ NewL xs H Q := ⟨hl, O.newO k⟩
theorem r_newP (O : Sta κ I ps H) (hl : xs.length ≤ sizeLine) (k : ∀ p H2, Sta κ I ((p, .lst xs) :: ps) H2 → Q (.ref p) H2) : xs.length ≤ sizeLine ∧ NewL xs H Q := ⟨hl, O.newP k⟩
/-! tests -/
theorem r_test {t : TE} {R : Bool → Hp → Prop} (h : t σ H fun x H1 => ∃ k, x = .bl k ∧ R k H1) : tTest t σ H R := h
theorem r_truth {t : TE} {R : Bool → Hp → Prop} (h : t σ H fun x H1 => ∃ k, TruV K x H1 k ∧ R k H1) : tTruth K t σ H R := h
theorem r_truB {R : Bool → Hp → Prop} {c : Bool} (h : R c H) : ∃ k, TruV K (.bl c) H k ∧ R k H := ⟨c, rfl, h⟩
theorem r_exB {P : Bool → Prop} {c : Bool} (h : P c) : ∃ k, V.bl c = .bl k ∧ P k := ⟨c, rfl, h⟩
theorem r_exI {P : Int → Prop} {i : Int} (h : P i) : ∃ k, V.int i = .int k ∧ P k := ⟨i, rfl, h⟩
theorem r_ex2 {P : V → V → Prop} (h : P x y) : ∃ v w, [x, y] = [v, w] ∧ P v w := ⟨x, y, rfl, h⟩
theorem r_ex3 {P : V → V → V → Prop} {z : V} (h : P x y z) : ∃ u v w, [x, y, z] = [u, v, w] ∧ P u v w := ⟨x, y, z, rfl, h⟩
theorem r_and {t w : TT} {R : Bool → Hp → Prop} (h : t σ H fun c H1 => if c = true then w σ H1 R else R false H1) : tAnd t w σ H R := h
theorem r_or {t w : TT} {R : Bool → Hp → Prop} (h : t σ H fun c H1 => if c = true then R true H1 else w σ H1 R) : tOr t w σ H R := h
theorem r_not {t : TT} {R : Bool → Hp → Prop} (h : t σ H fun c H1 => R (!c) H1) : tNot t σ H R := h
theorem r_andV {ta tb : TE} (h : ta σ H fun x H1 => ∃ c, x = .bl c ∧ if c = true then tb σ H1 Q else Q (.bl false) H1) : tAndV ta tb σ H Q := h
theorem r_orV {ta tb : TE} (h : ta σ H fun x H1 => ∃ c, x = .bl c ∧ if c = true then Q (.bl true) H1 else tb σ H1 Q) : tOrV ta tb σ H Q := h
theorem r_notV {ta : TE} (h : ta σ H fun x H1 => ∃ c, x = .bl c ∧ Q (.bl (!c)) H1) : tNotV ta σ H Q := h
theorem r_ifE {t : TT} {ta tb : TE} (h : t σ H fun c H1 => if c = true then ta σ H1 Q else tb σ H1 Q) : tIf t ta tb σ H Q := h
theorem r_chain {r r2 : R2} {ta tb tc : TE} (h : ta σ H fun x H1 => tb σ H1 fun y H2 => r x y H2 fun z H3 => ∃ k, z = .bl k ∧ (if k = true then tc σ H3 fun w H4 => r2 y w H4 Q else Q (.bl false) H3)) : tChain r r2 ta tb tc σ H Q := h
theorem r_ite {A B : Prop} {p : Prop} [Decidable p] (h1 : p → A) (h2 : ¬ p → B) : if decide p = true then A else B := by
  by_cases h : p
  · rw [if_pos (decide_eq_true h)]; exact h1 h
  · rw [if_neg (by rw [decide_eq_false h]; exact Bool.false_ne_true)]; exact h2 h
theorem r_iteN {A B : Prop} {c : Bool} (h : if c = true then B else A) : if (!c) = true then A else B := by
  cases c with
  | true => exact h
  | false => exact h
theorem r_iteT {A B : Prop} (h : A) : if true = true then A else B := by rw [if_pos rfl]; exact h
theorem r_iteF {A B : Prop} (h : B) : if false = true then A else B := by rw [if_neg Bool.false_ne_true]; exact h
theorem r_yes {A B : Prop} {p : Prop} [Decidable p] (hp : p) (h : A) : if decide p = true then A else B := by rw [if_pos (decide_eq_true hp)]; exact h
theorem r_no {A B : Prop} {p : Prop} [Decidable p] (hp : ¬ p) (h : B) : if decide p = true then A else B := by rw [if_neg (by rw [decide_eq_false hp]; exact Bool.false_ne_true)]; exact h
/-! calls -/
theorem r_cb {r : List V → Hp → VK → Prop} {t : TA} (h : t σ H fun vs H1 => r vs H1 Q) : tCB r t σ H Q := h
theorem r_call {sp : Sp} {E : XK} {t : TA} (h : t σ H fun vs H1 => sp vs H1 Q E) : tCall sp [] E t σ H Q := by
  show t σ H fun vs H1 => sp (vs ++ []) H1 Q E
  have e : (fun vs H1 => sp (vs ++ []) H1 Q E) = fun vs H1 => sp vs H1 Q E := by
    funext vs H1
    rw [List.append_nil]
  rw [e]
  exact h
theorem r_lenT (O : Sta κ I ps H) (h : SqT K I a xs) (k : Q (.int (xs.length : Nat)) H) : rLenA K [.ref a] H Q := ⟨.ref a, xs.length, rfl, .inr ⟨xs, O.sT h, rfl⟩, k⟩
theorem r_lenL (h : SqL K H a xs) (k : Q (.int (xs.length : Nat)) H) : rLenA K [.ref a] H Q := ⟨.ref a, xs.length, rfl, .inl ⟨xs, h, rfl⟩, k⟩
theorem r_max2 {i j : Int} (k : Q (.int (if j > i then j else i)) H) : rMaxA K [.int i, .int j] H Q := .inl ⟨i, j, rfl, k⟩
theorem r_min2 {i j : Int} (k : Q (.int (if j < i then j else i)) H) : rMinA K [.int i, .int j] H Q := .inl ⟨i, j, rfl, k⟩
theorem r_maxL {ns : List Int} (h : SqL K H a (ns.map V.int)) (hn : 0 < ns.length) (k : ∀ m, m ∈ ns → (∀ y, y ∈ ns → y ≤ m) → Q (.int m) H) : rMaxA K [.ref a] H Q := .inr ⟨a, ns, rfl, h, hn, k⟩
theorem r_repr {d : PyData} (O : Sta κ I ps H) (h : Dp K I v d) (h1 : d.showable = true) (h2 : d.depth ≤ 60) (h3 : d.shown.length ≤ sizeLine) (k : Q (.str d.shown) H) : rRepr K [v] H Q := ⟨v, d, rfl, Dp.up O.ex h, h1, h2, h3, k⟩
theorem r_listT (O : Sta κ I ps H) (h : SqL K H a xs ∨ SqT K H a xs) (k : ∀ p H2, Sta κ I ((p, .lst xs) :: ps) H2 → Q (.ref p) H2) : rListA K [.ref a] H Q := ⟨a, xs, rfl, h, O.newP k⟩
theorem r_tupL (O : Sta κ I ps H) (h : SqL K H a xs) (k : ∀ p J H2, Sta κ J ps H2 → Ex I J → TupF J p xs → Q (.ref p) H2) : rTupF K [.ref a] H Q := ⟨a, xs, rfl, .inl ⟨h, O.newT k⟩⟩
theorem r_divmod {i j : Int} (O : Sta κ I ps H) (hc : CDiv i j) (k : ∀ p J H2, Sta κ J ps H2 → Ex I J → SqT K J p [.int (i / j), .int (i % j)] → Q (.ref p) H2) : rDivmod [.int i, .int j] H Q := ⟨i, j, rfl, hc, O.newO fun p J H2 O2 e q => k p J H2 O2 e (SqT.of q)⟩
theorem r_int1 {c : Bool} (k : Q (.int (if c then 1 else 0)) H) : rInt1 [.bl c] H Q := .inr ⟨c, rfl, k⟩
theorem r_bmT {r : V → List V → Hp → VK → Prop} {to : TE} {t : TA} (h : to σ H fun x H1 => (∃ p xs, x = .ref p ∧ TupF H1 p xs) ∧ t σ H1 fun xs H2 => r x xs H2 Q) : tBMT r to t σ H Q := h
theorem r_tyT {A : Prop} (O : Sta κ I ps H) (h : TupF I a xs) (k : A) : (∃ p xs, V.ref a = .ref p ∧ TupF H p xs) ∧ A := ⟨⟨a, xs, rfl, TupF.up O.ex h⟩, k⟩
theorem r_cntT {ns : List Int} {k : Int} (O : Sta κ I ps H) (h : SqT K I a (ns.map V.int)) (q : Q (.int (ns.count k : Nat)) H) : rCntT K (.ref a) [.int k] H Q := ⟨a, ns, k, rfl, rfl, O.sT h, q⟩
theorem r_bm {r : V → List V → Hp → VK → Prop} {to : TE} {t : TA} {T : String} (h : to σ H fun x H1 => tyV K T x H1 ∧ t σ H1 fun xs H2 => r x xs H2 Q) : tBM K T r to t σ H Q := h
theorem r_bm0 {r : V → List V → Hp → VK → Prop} {to : TE} {T : String} (h : to σ H fun x H1 => tyV K T x H1 ∧ r x [] H1 Q) : tBM0 K T r to σ H Q := h
theorem r_tyL {A : Prop} (h : SqL K H a xs) (k : A) : tyV K "list" (.ref a) H ∧ A := ⟨.inl ⟨rfl, xs, h⟩, k⟩
theorem r_app {n : Nat} (O : Sta κ I ps H) (h : ps[n]? = some (l, .lst xs)) (hl : xs.length < sizeLine) (k : ∀ H2, Sta κ I (ps.set n (l, .lst (xs ++ [v]))) H2 → Q .non H2) : rAppend (.ref l) [v] H Q := ⟨l, xs, v, rfl, rfl, O.ix h, hl, k _ (O.set h)⟩
theorem r_pop {n : Nat} (O : Sta κ I ps H) (h : ps[n]? = some (l, .lst xs)) (e : xs[xs.length - 1]? = some v) (k : ∀ H2, Sta κ I (ps.set n (l, .lst xs.dropLast)) H2 → Q v H2) : rPop (.ref l) [] H Q := ⟨l, xs, v, rfl, rfl, O.ix h, e, k _ (O.set h)⟩
/-! loops -/
def LoopR (J : It) (g : TG) (tb : TS) (D : Ends) (σ : St) (H : Hp) : Prop := ∃ W : Nat → Nat → St → Hp → Prop, (∃ m, W 0 m σ H) ∧ ∀ i m σ H, W i m σ H →
  (J.stop i H ∧ D.nx σ H) ∨ (J.go i H ∧ ∃ N : St → Hp → Prop, (∀ σ2 H2, N σ2 H2 → ∃ m2, m2 < m ∧ W (i + 1) m2 σ2 H2) ∧ ∀ x H2, J.yld i H x H2 → g x σ H2 fun σ3 H3 => tb { D with nx := N, ct := N, bk := D.nx } σ3 H3)
theorem r_for {wi : TI} {g : TG} {tb : TS} (h : wi σ H fun J H1 => LoopR J g tb D σ H1) : tFor wi g tb D σ H := h
def CompR (J : It) (g : TG) (tt : TT) (te : TE) (vs : List Nat) (σ : St) (H : Hp) (Q : VK) : Prop := ∀ D, H D = none → ∃ W : Nat → Nat → Hp → Prop, (∃ m, W 0 m (upd H D (.lst []))) ∧ ∀ i m H, W i m H →
  (J.stop i H ∧ Q (.ref D) H) ∨ (J.go i H ∧ ∃ Nx : Hp → Prop, (∀ H2, Nx H2 → ∃ m2, m2 < m ∧ W (i + 1) m2 H2) ∧ ∀ x H2, J.yld i H x H2 → g x (wipe σ vs) H2 fun σ2 H3 => wipe σ2 vs = wipe σ vs ∧ tt σ2 H3 fun b H4 =>
    if b = true then te σ2 H4 fun y H5 => ∃ acc, H5 D = some (.lst acc) ∧ acc.length < sizeLine ∧ Nx (upd H5 D (.lst (acc ++ [y]))) else Nx H4)
theorem r_lc {wi : TI} {g : TG} {tt : TT} {te : TE} {vs : List Nat} (h : wi σ H fun J H1 => CompR J g tt te vs σ H1 Q) : tLc wi g tt te vs σ H Q := h
theorem r_yes0 {R : Bool → Hp → Prop} (h : R true H) : tYes σ H R := h
theorem r_rng1 {ta : TA} {R : It → Hp → Prop} (h : ta σ H fun vs H1 => ∃ j : Int, vs = [.int j] ∧ -(2 ^ 62) ≤ j ∧ j < 2 ^ 62 ∧ R (Itr 0 j.toNat) H1) : iRng1 ta σ H R := h
theorem r_rng1k {P : Int → Prop} {j : Int} (h1 : -(2 ^ 62) ≤ j) (h2 : j < 2 ^ 62) (k : P j) : ∃ i : Int, [V.int j] = [.int i] ∧ -(2 ^ 62) ≤ i ∧ i < 2 ^ 62 ∧ P i := ⟨j, rfl, h1, h2, k⟩
theorem r_rng2 {ta : TA} {R : It → Hp → Prop} (h : ta σ H fun vs H1 => ∃ i j : Int, vs = [.int i, .int j] ∧ (-(2 ^ 62) ≤ i ∧ i < 2 ^ 62 ∧ -(2 ^ 62) ≤ j ∧ j < 2 ^ 62) ∧ R (Itr i (j - i).toNat) H1) : iRng2 ta σ H R := h
theorem r_rng2k {P : Int → Int → Prop} {i j : Int} (h : -(2 ^ 62) ≤ i ∧ i < 2 ^ 62 ∧ -(2 ^ 62) ≤ j ∧ j < 2 ^ 62) (k : P i j) : ∃ i2 j2 : Int, [V.int i, V.int j] = [.int i2, .int j2] ∧ (-(2 ^ 62) ≤ i2 ∧ i2 < 2 ^ 62 ∧ -(2 ^ 62) ≤ j2 ∧ j2 < 2 ^ 62) ∧ P i2 j2 := ⟨i, j, rfl, h, k⟩
theorem r_seqI {te : TE} {R : It → Hp → Prop} (h : te σ H fun x H1 => ∃ a xs, x = .ref a ∧ ((SqL K H1 a xs ∧ R (Itl K a) H1) ∨ (SqT K H1 a xs ∧ R (Itt K a) H1))) : iSeq K te σ H R := h
theorem r_seqT {P1 P2 : Addr → Prop} (O : Sta κ I ps H) (h : SqT K I a xs) (k : P2 a) : ∃ b ys, V.ref a = .ref b ∧ ((SqL K H b ys ∧ P1 b) ∨ (SqT K H b ys ∧ P2 b)) := ⟨a, xs, rfl, .inr ⟨O.sT h, k⟩⟩
theorem r_seqL {P1 P2 : Addr → Prop} (h : SqL K H a xs) (k : P1 a) : ∃ b ys, V.ref a = .ref b ∧ ((SqL K H b ys ∧ P1 b) ∨ (SqT K H b ys ∧ P2 b)) := ⟨a, xs, rfl, .inl ⟨h, k⟩⟩
theorem r_enum {ta : TA} {R : It → Hp → Prop} (h : ta σ H fun vs H1 => ∃ a xs, vs = [.ref a] ∧ ((SqL K H1 a xs ∧ R (Itu xs.length (fun H => SqL K H a xs) (YEnum xs)) H1) ∨ (SqT K H1 a xs ∧ R (Itu xs.length (fun H => SqT K H a xs) (YEnum xs)) H1))) : iEnumS K ta σ H R := h
theorem r_enumT {P1 P2 : Addr → List V → Prop} (O : Sta κ I ps H) (h : SqT K I a xs) (k : P2 a xs) : ∃ b ys, [V.ref a] = [.ref b] ∧ ((SqL K H b ys ∧ P1 b ys) ∨ (SqT K H b ys ∧ P2 b ys)) := ⟨a, xs, rfl, .inr ⟨O.sT h, k⟩⟩
theorem r_enumL {P1 P2 : Addr → List V → Prop} (h : SqL K H a xs) (k : P1 a xs) : ∃ b ys, [V.ref a] = [.ref b] ∧ ((SqL K H b ys ∧ P1 b ys) ∨ (SqT K H b ys ∧ P2 b ys)) := ⟨a, xs, rfl, .inl ⟨h, k⟩⟩
theorem r_zip {ta : TA} {R : It → Hp → Prop} (h : ta σ H fun vs H1 => ∃ a b xs ys, vs = [.ref a, .ref b] ∧
  ((SqL K H1 a xs ∧ SqL K H1 b ys ∧ R (Itu (min xs.length ys.length) (fun H => SqL K H a xs ∧ SqL K H b ys) (YZip xs ys)) H1) ∨
   (SqL K H1 a xs ∧ SqT K H1 b ys ∧ R (Itu (min xs.length ys.length) (fun H => SqL K H a xs ∧ SqT K H b ys) (YZip xs ys)) H1) ∨
   (SqT K H1 a xs ∧ SqL K H1 b ys ∧ R (Itu (min xs.length ys.length) (fun H => SqT K H a xs ∧ SqL K H b ys) (YZip xs ys)) H1) ∨
   (SqT K H1 a xs ∧ SqT K H1 b ys ∧ R (Itu (min xs.length ys.length) (fun H => SqT K H a xs ∧ SqT K H b ys) (YZip xs ys)) H1))) : iZipS K ta σ H R := h
end
end L3

/-! loops and comprehensions by an invariant over the state. -/
namespace L3
open PySem PySem.Spec PyProof.Rows L2
/-- what holds between two turns -/
def LInv (I : Hp) (κ : Nat → Kn) (Pv : Nat → St → Hp → PL → Prop) (i : Nat) (σ : St) (H : Hp) : Prop := ∃ J ps, Ex I J ∧ Sta (κ i) J ps H ∧ Pv i σ J ps
def CInv (I : Hp) (κ : Nat → Kn) (Pv : Nat → Hp → PL → List V → Prop) (D : Addr) (i : Nat) (H : Hp) : Prop := ∃ J ps acc, Ex I J ∧ Sta (κ i) J ((D, .lst acc) :: ps) H ∧ Pv i J ps acc
section
variable {K : PySem.W.Frag} {κ : Nat → Kn} {I J H : Hp} {ps : PL} {a b : Addr} {xs ys : List V} {Q : VK} {σ : St} {D : Ends} {g : TG} {tb : TS} {tt : TT} {te : TE} {vs : List Nat}
theorem r_linv {Pv : Nat → St → Hp → PL → Prop} {i : Nat} (e : Ex I J) (O : Sta (κ i) J ps H) (h : Pv i σ J ps) : LInv I κ Pv i σ H := ⟨J, ps, e, O, h⟩
theorem loop_rng {lo : Int} {n : Nat} (κ : Nat → Kn) (Pv : Nat → St → Hp → PL → Prop) (O : Sta (κ 0) I ps H) (h0 : Pv 0 σ I ps)
    (hs : ∀ i σ1 J ps1 H1, i < n → Ex I J → Sta (κ i) J ps1 H1 → Pv i σ1 J ps1 → g (.int (lo + (i : Nat))) σ1 H1 fun σ2 H2 => tb { D with nx := LInv I κ Pv (i + 1), ct := LInv I κ Pv (i + 1), bk := D.nx } σ2 H2)
    (hd : ∀ σ1 J ps1 H1, Ex I J → Sta (κ n) J ps1 H1 → Pv n σ1 J ps1 → D.nx σ1 H1) : LoopR (Itr lo n) g tb D σ H :=
  for_range (LInv I κ Pv) ⟨I, ps, Ex.refl I, O, h0⟩ (fun i σ1 H1 hi ⟨J, ps1, e, O1, p⟩ => hs i σ1 J ps1 H1 hi e O1 p) fun σ1 H1 ⟨J, ps1, e, O1, p⟩ => hd σ1 J ps1 H1 e O1 p
theorem loop_rng0 {n : Nat} (κ : Nat → Kn) (Pv : Nat → St → Hp → PL → Prop) (O : Sta (κ 0) I ps H) (h0 : Pv 0 σ I ps)
    (hs : ∀ i σ1 J ps1 H1, i < n → Ex I J → Sta (κ i) J ps1 H1 → Pv i σ1 J ps1 → g (.int (i : Nat)) σ1 H1 fun σ2 H2 => tb { D with nx := LInv I κ Pv (i + 1), ct := LInv I κ Pv (i + 1), bk := D.nx } σ2 H2)
    (hd : ∀ σ1 J ps1 H1, Ex I J → Sta (κ n) J ps1 H1 → Pv n σ1 J ps1 → D.nx σ1 H1) : LoopR (Itr 0 n) g tb D σ H :=
  loop_rng κ Pv O h0 (fun i σ1 J ps1 H1 hi e O1 p => by rw [Int.zero_add]; exact hs i σ1 J ps1 H1 hi e O1 p) hd
theorem loop_seqT (κ : Nat → Kn) (Pv : Nat → St → Hp → PL → Prop) (O : Sta (κ 0) I ps H) (hx : SqT K I a xs) (h0 : Pv 0 σ I ps)
    (hs : ∀ i x σ1 J ps1 H1, xs[i]? = some x → Ex I J → Sta (κ i) J ps1 H1 → Pv i σ1 J ps1 → g x σ1 H1 fun σ2 H2 => tb { D with nx := LInv I κ Pv (i + 1), ct := LInv I κ Pv (i + 1), bk := D.nx } σ2 H2)
    (hd : ∀ σ1 J ps1 H1, Ex I J → Sta (κ xs.length) J ps1 H1 → Pv xs.length σ1 J ps1 → D.nx σ1 H1) : LoopR (Itt K a) g tb D σ H :=
  for_tup (LInv I κ Pv) ⟨I, ps, Ex.refl I, O, h0⟩ (fun i σ1 H1 hi ⟨J, ps1, e, O1, p⟩ => O1.sT (SqT.up e hx)) (fun i x σ1 H1 hi ⟨J, ps1, e, O1, p⟩ => hs i x σ1 J ps1 H1 hi e O1 p) fun σ1 H1 ⟨J, ps1, e, O1, p⟩ => hd σ1 J ps1 H1 e O1 p
theorem loop_seqL (κ : Nat → Kn) (Pv : Nat → St → Hp → PL → Prop) (O : Sta (κ 0) I ps H) (hG : ∀ i σ1 J ps1 H1, Ex I J → Sta (κ i) J ps1 H1 → Pv i σ1 J ps1 → SqL K H1 a xs) (h0 : Pv 0 σ I ps)
    (hs : ∀ i x σ1 J ps1 H1, xs[i]? = some x → Ex I J → Sta (κ i) J ps1 H1 → Pv i σ1 J ps1 → g x σ1 H1 fun σ2 H2 => tb { D with nx := LInv I κ Pv (i + 1), ct := LInv I κ Pv (i + 1), bk := D.nx } σ2 H2)
    (hd : ∀ σ1 J ps1 H1, Ex I J → Sta (κ xs.length) J ps1 H1 → Pv xs.length σ1 J ps1 → D.nx σ1 H1) : LoopR (Itl K a) g tb D σ H :=
  for_list (LInv I κ Pv) ⟨I, ps, Ex.refl I, O, h0⟩ (fun i σ1 H1 hi ⟨J, ps1, e, O1, p⟩ => hG i σ1 J ps1 H1 e O1 p) (fun i x σ1 H1 hi ⟨J, ps1, e, O1, p⟩ => hs i x σ1 J ps1 H1 hi e O1 p) fun σ1 H1 ⟨J, ps1, e, O1, p⟩ => hd σ1 J ps1 H1 e O1 p
theorem walk_u {n : Nat} {G : Hp → Prop} {Y : Nat → List V → Prop} : Walk (Itu n G Y) n G fun i H x H2 => ∃ T us, x = .ref T ∧ H T = none ∧ H2 = upd H T (.tup us) ∧ Y i us where
  goes := fun i H hi g => ⟨hi, g⟩
  stops := fun H g => ⟨rfl, g⟩
  yields := fun i H x H2 hi g y => y
theorem loop_u {n : Nat} {G : Hp → Prop} {Y : Nat → List V → Prop} {gs : TGs} {m : Nat} (κ : Nat → Kn) (Pv : Nat → St → Hp → PL → Prop) (O : Sta (κ 0) I ps H) (hG : ∀ i σ1 J ps1 H1, Ex I J → Sta (κ i) J ps1 H1 → Pv i σ1 J ps1 → G H1) (hY : ∀ i us, Y i us → us.length = m) (h0 : Pv 0 σ I ps)
    (hs : ∀ i us σ1 J ps1 H1, i < n → Y i us → Ex I J → Sta (κ i) J ps1 H1 → Pv i σ1 J ps1 → gs us σ1 H1 fun σ2 H2 => tb { D with nx := LInv I κ Pv (i + 1), ct := LInv I κ Pv (i + 1), bk := D.nx } σ2 H2)
    (hd : ∀ σ1 J ps1 H1, Ex I J → Sta (κ n) J ps1 H1 → Pv n σ1 J ps1 → D.nx σ1 H1) : LoopR (Itu n G Y) (gTup K m gs) tb D σ H := by
  refine for_it walk_u (LInv I κ Pv) ⟨I, ps, Ex.refl I, O, h0⟩ (fun i σ1 H1 _ ⟨J, ps1, e, O1, p⟩ => hG i σ1 J ps1 H1 e O1 p) ?_ fun σ1 H1 ⟨J, ps1, e, O1, p⟩ => hd σ1 J ps1 H1 e O1 p
  rintro i x σ1 H1 H2 hi ⟨J, ps1, e, O1, p⟩ ⟨T, us, rfl, hT, rfl, y⟩
  exact ⟨T, us, rfl, SqT.of upd_same, hY i us y, hs i us σ1 J ps1 _ hi y e (O1.skip hT) p⟩
theorem loop_enumT {gs : TGs} (κ : Nat → Kn) (Pv : Nat → St → Hp → PL → Prop) (O : Sta (κ 0) I ps H) (hx : SqT K I a xs) (h0 : Pv 0 σ I ps)
    (hs : ∀ i x σ1 J ps1 H1, xs[i]? = some x → Ex I J → Sta (κ i) J ps1 H1 → Pv i σ1 J ps1 → gs [.int (i : Nat), x] σ1 H1 fun σ2 H2 => tb { D with nx := LInv I κ Pv (i + 1), ct := LInv I κ Pv (i + 1), bk := D.nx } σ2 H2)
    (hd : ∀ σ1 J ps1 H1, Ex I J → Sta (κ xs.length) J ps1 H1 → Pv xs.length σ1 J ps1 → D.nx σ1 H1) : LoopR (Itu xs.length (fun H => SqT K H a xs) (YEnum xs)) (gTup K 2 gs) tb D σ H :=
  loop_u κ Pv O (fun i σ1 J ps1 H1 e O1 p => O1.sT (SqT.up e hx)) (fun i us ⟨x, _, e⟩ => by rw [e]; rfl) h0 (fun i us σ1 J ps1 H1 hi ⟨x, hx, eu⟩ e O1 p => by rw [eu]; exact hs i x σ1 J ps1 H1 hx e O1 p) hd
theorem loop_enumL {gs : TGs} (κ : Nat → Kn) (Pv : Nat → St → Hp → PL → Prop) (O : Sta (κ 0) I ps H) (hG : ∀ i σ1 J ps1 H1, Ex I J → Sta (κ i) J ps1 H1 → Pv i σ1 J ps1 → SqL K H1 a xs) (h0 : Pv 0 σ I ps)
    (hs : ∀ i x σ1 J ps1 H1, xs[i]? = some x → Ex I J → Sta (κ i) J ps1 H1 → Pv i σ1 J ps1 → gs [.int (i : Nat), x] σ1 H1 fun σ2 H2 => tb { D with nx := LInv I κ Pv (i + 1), ct := LInv I κ Pv (i + 1), bk := D.nx } σ2 H2)
    (hd : ∀ σ1 J ps1 H1, Ex I J → Sta (κ xs.length) J ps1 H1 → Pv xs.length σ1 J ps1 → D.nx σ1 H1) : LoopR (Itu xs.length (fun H => SqL K H a xs) (YEnum xs)) (gTup K 2 gs) tb D σ H :=
  loop_u κ Pv O hG (fun i us ⟨x, _, e⟩ => by rw [e]; rfl) h0 (fun i us σ1 J ps1 H1 hi ⟨x, hx, eu⟩ e O1 p => by rw [eu]; exact hs i x σ1 J ps1 H1 hx e O1 p) hd
/-! comprehensions -/
/-- what a turn of a comprehension is to reach -/
def CTurn (I : Hp) (κ : Nat → Kn) (Pv : Nat → Hp → PL → List V → Prop) (tt : TT) (te : TE) (vs : List Nat) (σ : St) (Dl : Addr) (i : Nat) (σ2 : St) (H : Hp) : Prop := wipe σ2 vs = wipe σ vs ∧ tt σ2 H fun c H4 =>
  if c = true then te σ2 H4 fun y H5 => ∃ acc, H5 Dl = some (.lst acc) ∧ acc.length < sizeLine ∧ CInv I κ Pv Dl (i + 1) (upd H5 Dl (.lst (acc ++ [y]))) else CInv I κ Pv Dl (i + 1) H4
theorem r_cturn {Pv : Nat → Hp → PL → List V → Prop} {Dl : Addr} {i : Nat} {σ2 : St} (hw : wipe σ2 vs = wipe σ vs) (h : tt σ2 H fun c H4 =>
  if c = true then te σ2 H4 fun y H5 => ∃ acc, H5 Dl = some (.lst acc) ∧ acc.length < sizeLine ∧ CInv I κ Pv Dl (i + 1) (upd H5 Dl (.lst (acc ++ [y]))) else CInv I κ Pv Dl (i + 1) H4) : CTurn I κ Pv tt te vs σ Dl i σ2 H := ⟨hw, h⟩
theorem r_cadd {Pv : Nat → Hp → PL → List V → Prop} {Dl : Addr} {i : Nat} {acc : List V} {y : V} (e : Ex I J) (O : Sta (κ i) J ((Dl, .lst acc) :: ps) H) (hl : acc.length < sizeLine) (h : Pv i J ps (acc ++ [y])) :
    ∃ acc, H Dl = some (.lst acc) ∧ acc.length < sizeLine ∧ CInv I κ Pv Dl i (upd H Dl (.lst (acc ++ [y]))) := ⟨acc, O.ix (i := 0) rfl, hl, J, ps, acc ++ [y], e, O.set (i := 0) rfl, h⟩
theorem r_cnone {Pv : Nat → Hp → PL → List V → Prop} {Dl : Addr} {i : Nat} {acc : List V} (e : Ex I J) (O : Sta (κ i) J ((Dl, .lst acc) :: ps) H) (h : Pv i J ps acc) : CInv I κ Pv Dl i H := ⟨J, ps, acc, e, O, h⟩
theorem comp_rng {lo : Int} {n : Nat} (κ : Nat → Kn) (Pv : Nat → Hp → PL → List V → Prop) (O : Sta (κ 0) I ps H) (h0 : Pv 0 I ps [])
    (hs : ∀ Dl i J ps1 acc H1, i < n → Ex I J → Sta (κ i) J ((Dl, .lst acc) :: ps1) H1 → Pv i J ps1 acc → g (.int (lo + (i : Nat))) (wipe σ vs) H1 (CTurn I κ Pv tt te vs σ Dl i))
    (hd : ∀ p J ps1 acc H1, Ex I J → Sta (κ n) J ((p, .lst acc) :: ps1) H1 → Pv n J ps1 acc → Q (.ref p) H1) : CompR (Itr lo n) g tt te vs σ H Q := fun Dl hD =>
  lc_range (Qd := fun H1 => Q (.ref Dl) H1) (CInv I κ Pv Dl) ⟨I, ps, [], Ex.refl I, O.own hD, h0⟩ (fun i H1 hi ⟨J, ps1, acc, e, O1, p⟩ => hs Dl i J ps1 acc H1 hi e O1 p) fun H1 ⟨J, ps1, acc, e, O1, p⟩ => hd Dl J ps1 acc H1 e O1 p
theorem comp_rng0 {n : Nat} (κ : Nat → Kn) (Pv : Nat → Hp → PL → List V → Prop) (O : Sta (κ 0) I ps H) (h0 : Pv 0 I ps [])
    (hs : ∀ Dl i J ps1 acc H1, i < n → Ex I J → Sta (κ i) J ((Dl, .lst acc) :: ps1) H1 → Pv i J ps1 acc → g (.int (i : Nat)) (wipe σ vs) H1 (CTurn I κ Pv tt te vs σ Dl i))
    (hd : ∀ p J ps1 acc H1, Ex I J → Sta (κ n) J ((p, .lst acc) :: ps1) H1 → Pv n J ps1 acc → Q (.ref p) H1) : CompR (Itr 0 n) g tt te vs σ H Q :=
  comp_rng κ Pv O h0 (fun Dl i J ps1 acc H1 hi e O1 p => by rw [Int.zero_add]; exact hs Dl i J ps1 acc H1 hi e O1 p) hd
theorem comp_seqT (κ : Nat → Kn) (Pv : Nat → Hp → PL → List V → Prop) (O : Sta (κ 0) I ps H) (hx : SqT K I a xs) (h0 : Pv 0 I ps [])
    (hs : ∀ Dl i x J ps1 acc H1, xs[i]? = some x → Ex I J → Sta (κ i) J ((Dl, .lst acc) :: ps1) H1 → Pv i J ps1 acc → g x (wipe σ vs) H1 (CTurn I κ Pv tt te vs σ Dl i))
    (hd : ∀ p J ps1 acc H1, Ex I J → Sta (κ xs.length) J ((p, .lst acc) :: ps1) H1 → Pv xs.length J ps1 acc → Q (.ref p) H1) : CompR (Itt K a) g tt te vs σ H Q := fun Dl hD =>
  lc_tup (Qd := fun H1 => Q (.ref Dl) H1) (CInv I κ Pv Dl) ⟨I, ps, [], Ex.refl I, O.own hD, h0⟩ (fun i H1 _ ⟨J, ps1, acc, e, O1, p⟩ => O1.sT (SqT.up e hx)) (fun i x H1 hi ⟨J, ps1, acc, e, O1, p⟩ => hs Dl i x J ps1 acc H1 hi e O1 p) fun H1 ⟨J, ps1, acc, e, O1, p⟩ => hd Dl J ps1 acc H1 e O1 p
theorem comp_seqL (κ : Nat → Kn) (Pv : Nat → Hp → PL → List V → Prop) (O : Sta (κ 0) I ps H) (hG : ∀ Dl i J ps1 acc H1, Ex I J → Sta (κ i) J ((Dl, .lst acc) :: ps1) H1 → Pv i J ps1 acc → SqL K H1 a xs) (h0 : Pv 0 I ps [])
    (hs : ∀ Dl i x J ps1 acc H1, xs[i]? = some x → Ex I J → Sta (κ i) J ((Dl, .lst acc) :: ps1) H1 → Pv i J ps1 acc → g x (wipe σ vs) H1 (CTurn I κ Pv tt te vs σ Dl i))
    (hd : ∀ p J ps1 acc H1, Ex I J → Sta (κ xs.length) J ((p, .lst acc) :: ps1) H1 → Pv xs.length J ps1 acc → Q (.ref p) H1) : CompR (Itl K a) g tt te vs σ H Q := fun Dl hD =>
  lc_list (Qd := fun H1 => Q (.ref Dl) H1) (CInv I κ Pv Dl) ⟨I, ps, [], Ex.refl I, O.own hD, h0⟩ (fun i H1 _ ⟨J, ps1, acc, e, O1, p⟩ => hG Dl i J ps1 acc H1 e O1 p) (fun i x H1 hi ⟨J, ps1, acc, e, O1, p⟩ => hs Dl i x J ps1 acc H1 hi e O1 p) fun H1 ⟨J, ps1, acc, e, O1, p⟩ => hd Dl J ps1 acc H1 e O1 p
theorem comp_u {n : Nat} {G : Hp → Prop} {Y : Nat → List V → Prop} {gs : TGs} {m : Nat} (κ : Nat → Kn) (Pv : Nat → Hp → PL → List V → Prop) (O : Sta (κ 0) I ps H) (hG : ∀ Dl i J ps1 acc H1, Ex I J → Sta (κ i) J ((Dl, .lst acc) :: ps1) H1 → Pv i J ps1 acc → G H1) (hY : ∀ i us, Y i us → us.length = m) (h0 : Pv 0 I ps [])
    (hs : ∀ Dl i us J ps1 acc H1, i < n → Y i us → Ex I J → Sta (κ i) J ((Dl, .lst acc) :: ps1) H1 → Pv i J ps1 acc → gs us (wipe σ vs) H1 (CTurn I κ Pv tt te vs σ Dl i))
    (hd : ∀ p J ps1 acc H1, Ex I J → Sta (κ n) J ((p, .lst acc) :: ps1) H1 → Pv n J ps1 acc → Q (.ref p) H1) : CompR (Itu n G Y) (gTup K m gs) tt te vs σ H Q := fun Dl hD => by
  refine lc_it (Qd := fun H1 => Q (.ref Dl) H1) walk_u (CInv I κ Pv Dl) ⟨I, ps, [], Ex.refl I, O.own hD, h0⟩ (fun i H1 _ ⟨J, ps1, acc, e, O1, p⟩ => hG Dl i J ps1 acc H1 e O1 p) ?_ fun H1 ⟨J, ps1, acc, e, O1, p⟩ => hd Dl J ps1 acc H1 e O1 p
  rintro i x H1 H2 hi ⟨J, ps1, acc, e, O1, p⟩ ⟨T, us, rfl, hT, rfl, y⟩
  exact ⟨T, us, rfl, SqT.of upd_same, hY i us y, hs Dl i us J ps1 acc _ hi y e (O1.skip hT) p⟩
theorem comp_enumT {gs : TGs} (κ : Nat → Kn) (Pv : Nat → Hp → PL → List V → Prop) (O : Sta (κ 0) I ps H) (hx : SqT K I a xs) (h0 : Pv 0 I ps [])
    (hs : ∀ Dl i x J ps1 acc H1, xs[i]? = some x → Ex I J → Sta (κ i) J ((Dl, .lst acc) :: ps1) H1 → Pv i J ps1 acc → gs [.int (i : Nat), x] (wipe σ vs) H1 (CTurn I κ Pv tt te vs σ Dl i))
    (hd : ∀ p J ps1 acc H1, Ex I J → Sta (κ xs.length) J ((p, .lst acc) :: ps1) H1 → Pv xs.length J ps1 acc → Q (.ref p) H1) : CompR (Itu xs.length (fun H => SqT K H a xs) (YEnum xs)) (gTup K 2 gs) tt te vs σ H Q :=
  comp_u κ Pv O (fun Dl i J ps1 acc H1 e O1 p => O1.sT (SqT.up e hx)) (fun i us ⟨x, _, e⟩ => by rw [e]; rfl) h0 (fun Dl i us J ps1 acc H1 hi ⟨x, hx, eu⟩ e O1 p => by rw [eu]; exact hs Dl i x J ps1 acc H1 hx e O1 p) hd
/-- zip of two lists that stay as they are -/
theorem comp_zipL {gs : TGs} (κ : Nat → Kn) (Pv : Nat → Hp → PL → List V → Prop) (O : Sta (κ 0) I ps H) (ha : SqL K I a xs) (hb : SqL K I b ys) (h0 : Pv 0 I ps [])
    (hs : ∀ Dl i x y J ps1 acc H1, xs[i]? = some x → ys[i]? = some y → Ex I J → Sta (κ i) J ((Dl, .lst acc) :: ps1) H1 → Pv i J ps1 acc → gs [x, y] (wipe σ vs) H1 (CTurn I κ Pv tt te vs σ Dl i))
    (hd : ∀ p J ps1 acc H1, Ex I J → Sta (κ (min xs.length ys.length)) J ((p, .lst acc) :: ps1) H1 → Pv (min xs.length ys.length) J ps1 acc → Q (.ref p) H1) :
    CompR (Itu (min xs.length ys.length) (fun H => SqL K H a xs ∧ SqL K H b ys) (YZip xs ys)) (gTup K 2 gs) tt te vs σ H Q :=
  comp_u κ Pv O (fun Dl i J ps1 acc H1 e O1 p => ⟨O1.sL (SqL.up e ha), O1.sL (SqL.up e hb)⟩) (fun i us ⟨x, y, _, _, e⟩ => by rw [e]; rfl) h0 (fun Dl i us J ps1 acc H1 hi ⟨x, y, hx, hy, eu⟩ e O1 p => by rw [eu]; exact hs Dl i x y J ps1 acc H1 hx hy e O1 p) hd
theorem r_zipLL {P1 P2 P3 P4 : Addr → Addr → List V → List V → Prop} (ha : SqL K H a xs) (hb : SqL K H b ys) (k : P1 a b xs ys) : ∃ a2 b2 xs ys, [V.ref a, .ref b] = [.ref a2, .ref b2] ∧
  ((SqL K H a2 xs ∧ SqL K H b2 ys ∧ P1 a2 b2 xs ys) ∨ (SqL K H a2 xs ∧ SqT K H b2 ys ∧ P2 a2 b2 xs ys) ∨ (SqT K H a2 xs ∧ SqL K H b2 ys ∧ P3 a2 b2 xs ys) ∨ (SqT K H a2 xs ∧ SqT K H b2 ys ∧ P4 a2 b2 xs ys)) := ⟨a, b, xs, ys, rfl, .inl ⟨ha, hb, k⟩⟩
end
end L3

/-! data that may be shown and compared; further steps. -/
namespace L3
open PySem PySem.Spec PyProof.Rows L2
/-- data of depth at most k, its ints of moderate size, its texts plain -/
def good : Nat → PyData → Prop
  | _, .none => True
  | _, .bool _ => True
  | _, .int i => i.natAbs.log2 < 1920
  | _, .str x => PyData.strOk x = true ∧ ∀ c ∈ x.cps.toList, c < 16 ^ 8
  | 0, .list _ => False
  | 0, .tuple _ => False
  | k + 1, .list xs => ∀ x ∈ xs, good k x
  | k + 1, .tuple xs => ∀ x ∈ xs, good k x
  | _, .dict _ => False
mutual
/-- a bound for the text -/
def nz : PyData → Nat
  | .none => 4
  | .bool _ => 5
  | .int _ => 1921
  | .str x => 10 * x.length + 4
  | .list xs => 3 + nzAll xs
  | .tuple xs => 3 + nzAll xs
  | .dict _ => 0
def nzAll : List PyData → Nat
  | [] => 0
  | x :: xs => nz x + 2 + nzAll xs
end
theorem nzAll_le {c : Nat} : ∀ {xs : List PyData}, (∀ x ∈ xs, nz x ≤ c) → nzAll xs ≤ xs.length * (c + 2)
  | [], _ => Nat.zero_le _
  | x :: xs, h => by
    have h1 := h x List.mem_cons_self
    have h2 := nzAll_le (xs := xs) fun y hy => h y (List.mem_cons_of_mem _ hy)
    have e : (x :: xs).length * (c + 2) = xs.length * (c + 2) + (c + 2) := by rw [List.length_cons, Nat.succ_mul]
    simp only [nzAll]
    omega
theorem log2_small {i : Int} (h : i.natAbs < 2 ^ 1919) : i.natAbs.log2 < 1920 := by
  by_cases h0 : i.natAbs = 0
  · rw [h0]; decide
  · exact Nat.lt_succ_of_lt ((Nat.log2_lt h0).mpr h)
theorem good_int {k : Nat} {i : Int} (h1 : -1000000000000000000000000 < i) (h2 : i < 1000000000000000000000000) : good k (.int i) := by
  have : i.natAbs.log2 < 1920 := log2_small (Nat.lt_trans (show i.natAbs < 1000000000000000000000000 by omega) (by decide))
  cases k <;> exact this
mutual
theorem good_show : ∀ (k : Nat) (d : PyData), good k d → d.showable = true
  | _, .none, _ => by simp only [PyData.showable]
  | _, .bool _, _ => by simp only [PyData.showable]
  | 0, .int i, h => by simpa [PyData.showable] using (show i.natAbs.log2 < 1920 from h)
  | k + 1, .int i, h => by simpa [PyData.showable] using (show i.natAbs.log2 < 1920 from h)
  | _, .str _, _ => by simp only [PyData.showable]
  | k + 1, .list xs, h => by simp only [PyData.showable]; exact goods_show k xs h
  | k + 1, .tuple xs, h => by simp only [PyData.showable]; exact goods_show k xs h
  | 0, .list _, h => h.elim
  | 0, .tuple _, h => h.elim
  | 0, .dict _, h => h.elim
  | k + 1, .dict _, h => h.elim
theorem goods_show : ∀ (k : Nat) (ds : List PyData), (∀ x ∈ ds, good k x) → PyData.showableAll ds = true
  | _, [], _ => by simp only [PyData.showableAll]
  | k, d :: ds, h => by simp only [PyData.showableAll, good_show k d (h d List.mem_cons_self), goods_show k ds fun x hx => h x (List.mem_cons_of_mem _ hx), Bool.and_self]
end
mutual
theorem good_lay : ∀ (k : Nat) (d : PyData), good k d → d.canLay0 = true
  | _, .none, _ => by simp only [PyData.canLay0]
  | _, .bool _, _ => by simp only [PyData.canLay0]
  | _, .int i, _ => by simp only [PyData.canLay0]
  | 0, .str _, h => by simp only [PyData.canLay0]; exact h.1
  | k + 1, .str _, h => by simp only [PyData.canLay0]; exact h.1
  | k + 1, .list xs, h => by simp only [PyData.canLay0]; exact goods_lay k xs h
  | k + 1, .tuple xs, h => by simp only [PyData.canLay0]; exact goods_lay k xs h
  | 0, .list _, h => h.elim
  | 0, .tuple _, h => h.elim
  | 0, .dict _, h => h.elim
  | k + 1, .dict _, h => h.elim
theorem goods_lay : ∀ (k : Nat) (ds : List PyData), (∀ x ∈ ds, good k x) → PyData.canLayAll0 ds = true
  | _, [], _ => by simp only [PyData.canLayAll0]
  | k, d :: ds, h => by simp only [PyData.canLayAll0, good_lay k d (h d List.mem_cons_self), goods_lay k ds fun x hx => h x (List.mem_cons_of_mem _ hx), Bool.and_self]
end
mutual
theorem good_depth : ∀ (k : Nat) (d : PyData), good k d → d.depth ≤ k
  | _, .none, _ => by simp only [PyData.depth]; omega
  | _, .bool _, _ => by simp only [PyData.depth]; omega
  | _, .int i, _ => by simp only [PyData.depth]; omega
  | _, .str _, _ => by simp only [PyData.depth]; omega
  | k + 1, .list xs, h => by simp only [PyData.depth]; have := goods_depth k xs h; omega
  | k + 1, .tuple xs, h => by simp only [PyData.depth]; have := goods_depth k xs h; omega
  | 0, .list _, h => h.elim
  | 0, .tuple _, h => h.elim
  | 0, .dict _, h => h.elim
  | k + 1, .dict _, h => h.elim
theorem goods_depth : ∀ (k : Nat) (ds : List PyData), (∀ x ∈ ds, good k x) → PyData.depthAll ds ≤ k
  | _, [], _ => by simp only [PyData.depthAll]; omega
  | k, d :: ds, h => by
    simp only [PyData.depthAll]
    have h1 := good_depth k d (h d List.mem_cons_self)
    have h2 := goods_depth k ds fun x hx => h x (List.mem_cons_of_mem _ hx)
    omega
end
mutual
theorem good_nz : ∀ (k : Nat) (d : PyData), good k d → d.shown.length ≤ nz d
  | _, .none, _ => by simp only [PyData.shown, nz]; decide
  | _, .bool b, _ => by cases b <;> simp only [PyData.shown, nz] <;> decide
  | 0, .int i, h => by simp only [PyData.shown, nz]; exact PyProof.Rows.int_text_len_1921 h
  | k + 1, .int i, h => by simp only [PyData.shown, nz]; exact PyProof.Rows.int_text_len_1921 h
  | 0, .str x, h => by simp only [PyData.shown, nz]; exact Nat.le_trans (StrLaws.reprText_len x h.2) (Nat.add_le_add_left (by decide) _)
  | k + 1, .str x, h => by simp only [PyData.shown, nz]; exact Nat.le_trans (StrLaws.reprText_len x h.2) (Nat.add_le_add_left (by decide) _)
  | k + 1, .list xs, h => by
    simp only [PyData.shown, nz]
    have h1 := listText_len_le (PyData.shownAll xs)
    have h2 := goods_nz k xs h
    omega
  | k + 1, .tuple xs, h => by
    simp only [PyData.shown, nz]
    have h1 := tupleText_len_le (PyData.shownAll xs)
    have h2 := goods_nz k xs h
    omega
  | 0, .list _, h => h.elim
  | 0, .tuple _, h => h.elim
  | 0, .dict _, h => h.elim
  | k + 1, .dict _, h => h.elim
theorem goods_nz : ∀ (k : Nat) (ds : List PyData), (∀ x ∈ ds, good k x) → ((PyData.shownAll ds).map (·.length)).sum + 2 * (PyData.shownAll ds).length ≤ nzAll ds
  | _, [], _ => by simp only [PyData.shownAll, nzAll]; decide
  | k, d :: ds, h => by
    simp only [PyData.shownAll, nzAll, List.map_cons, List.sum_cons, List.length_cons]
    have h1 := good_nz k d (h d List.mem_cons_self)
    have h2 := goods_nz k ds fun x hx => h x (List.mem_cons_of_mem _ hx)
    omega
end
theorem good_shaped {k : Nat} {d : PyData} (h : good k d) (hk : k ≤ 64) : SeqAt.shaped d = true := by
  unfold SeqAt.shaped
  rw [good_lay k d h, decide_eq_true (Nat.le_trans (good_depth k d h) hk)]
  rfl
theorem good_tup {k : Nat} {xs : List PyData} (h : ∀ x ∈ xs, good k x) : good (k + 1) (.tuple xs) := h
theorem good_lst {k : Nat} {xs : List PyData} (h : ∀ x ∈ xs, good k x) : good (k + 1) (.list xs) := h
theorem goods_nil {k : Nat} : ∀ x ∈ ([] : List PyData), good k x := fun _ h => absurd h List.not_mem_nil
theorem goods_cons {k : Nat} {x : PyData} {xs : List PyData} (h : good k x) (hs : ∀ y ∈ xs, good k y) : ∀ y ∈ x :: xs, good k y := fun y hy => by
  rcases List.mem_cons.mp hy with rfl | hy
  · exact h
  · exact hs y hy
theorem goods_ints {k : Nat} {ns : List Int} (h : ∀ n ∈ ns, -1000000000000000000000000 < n ∧ n < 1000000000000000000000000) : ∀ y ∈ ns.map PyData.int, good k y := fun y hy => by
  obtain ⟨n, hn, rfl⟩ := List.mem_map.mp hy
  exact good_int (h n hn).1 (h n hn).2
theorem goods_rep {k n : Nat} {x : PyData} (h : good k x) : ∀ y ∈ List.replicate n x, good k y := fun y hy => by
  rw [(List.mem_replicate.mp hy).2]
  exact h
section
variable {K : PySem.W.Frag} {κ : Kn} {I J H H1 H2 : Hp} {ps qs : PL} {a p l b : Addr} {xs ys : List V} {o u : HO} {v x y : V} {Q : VK} {σ σ2 : St} {D : Ends} {i j : Nat}
theorem r_reprG {k : Nat} {d : PyData} (O : Sta κ I ps H) (h : Dp K I v d) (hg : good k d) (hk : k ≤ 60) (hz : nz d ≤ 16000000) (q : Q (.str d.shown) H) : rRepr K [v] H Q :=
  r_repr O h (good_show k d hg) (Nat.le_trans (good_depth k d hg) hk) (Nat.le_trans (Nat.le_trans (good_nz k d hg) hz) (by decide)) q
theorem r_eqG {k k2 : Nat} {d e : PyData} (O : Sta κ I ps H) (hd : Dp K I x d) (he : Dp K I y e) (h1 : good k d) (h2 : good k2 e) (hk : k ≤ 60) (hk2 : k2 ≤ 60) (q : Q (.bl (PyData.eqv d e)) H) : rEqA K x y H Q := r_eqD O hd he (good_shaped h1 (by omega)) (good_shaped h2 (by omega)) q
theorem r_neG {k k2 : Nat} {d e : PyData} (O : Sta κ I ps H) (hd : Dp K I x d) (he : Dp K I y e) (h1 : good k d) (h2 : good k2 e) (hk : k ≤ 60) (hk2 : k2 ≤ 60) (q : Q (.bl (!PyData.eqv d e)) H) : rNeA K x y H Q := r_neD O hd he (good_shaped h1 (by omega)) (good_shaped h2 (by omega)) q
theorem r_neStr {s1 s2 : Str} (e : s1 = s2) (q : Q (.bl false) H) : rNeA K (.str s1) (.str s2) H Q := by
  subst e
  refine r_neS rfl ?_
  rw [decide_eq_true rfl]
  exact q
theorem r_eqStr {s1 s2 : Str} (e : s1 = s2) (q : Q (.bl true) H) : rEqA K (.str s1) (.str s2) H Q := by
  subst e
  refine r_eqS rfl ?_
  rw [decide_eq_true rfl]
  exact q
/-- a list of ints beside the empty list -/
theorem shaped_intsL (ns : List Int) : SeqAt.shaped (.list (ns.map .int)) = true := by
  have h : ∀ ns : List Int, PyData.canLayAll0 (ns.map .int) = true ∧ PyData.depthAll (ns.map .int) = 0 := by
    intro ns
    induction ns with
    | nil => exact ⟨by simp only [List.map_nil, PyData.canLayAll0], by simp only [List.map_nil, PyData.depthAll]⟩
    | cons n ns ih => exact ⟨by simp only [List.map_cons, PyData.canLayAll0, PyData.canLay0, ih.1, Bool.and_self], by simp only [List.map_cons, PyData.depthAll, PyData.depth, ih.2, Nat.max_self]⟩
  unfold SeqAt.shaped
  simp only [PyData.canLay0, PyData.depth, (h ns).1, (h ns).2]
  rfl
theorem eqv_nil (ds : List PyData) : PyData.eqv (.list ds) (.list []) = decide (ds = []) := by
  cases ds with
  | nil => simp [PyData.eqv, PyData.eqvAll]
  | cons d ds => simp [PyData.eqv, PyData.eqvAll]
theorem r_neNilI {ns : List Int} (ha : SqL K H a (ns.map V.int)) (hb : SqL K H b []) (q : Q (.bl (!decide (ns = []))) H) : rNeA K (.ref a) (.ref b) H Q := by
  refine .inr ⟨.list (ns.map .int), .list [], .lst ha (dpAll_ints ns), .lst hb .nil, shaped_intsL ns, shaped_intsL [], ?_⟩
  rw [eqv_nil]
  have e : decide (ns.map PyData.int = []) = decide (ns = []) := by cases ns <;> simp
  rw [e]
  exact q
theorem r_eqNilI {ns : List Int} (ha : SqL K H a (ns.map V.int)) (hb : SqL K H b []) (q : Q (.bl (decide (ns = []))) H) : rEqA K (.ref a) (.ref b) H Q := by
  refine .inr ⟨.list (ns.map .int), .list [], .lst ha (dpAll_ints ns), .lst hb .nil, shaped_intsL ns, shaped_intsL [], ?_⟩
  rw [eqv_nil]
  have e : decide (ns.map PyData.int = []) = decide (ns = []) := by cases ns <;> simp
  rw [e]
  exact q
theorem r_revL {te : TE} (h : te σ H fun x H1 => ∃ a xs, x = .ref a ∧ SqL K H1 a xs ∧ NewL xs.reverse H1 Q) : tRevL K te σ H Q := h
theorem r_revP (O : Sta κ I ps H) (h : SqL K H a xs) (k : ∀ p H2, Sta κ I ((p, .lst xs.reverse) :: ps) H2 → Q (.ref p) H2) : ∃ b ys, V.ref a = .ref b ∧ SqL K H b ys ∧ NewL ys.reverse H Q := ⟨a, xs, rfl, h, O.newP k⟩
theorem r_gsub {to ti : TE} {t : TSet} {R : St → Hp → Prop} (h : to σ H fun o H1 => ti σ H1 fun i H2 => t o i v H2 fun H3 => R σ H3) : gSub to ti t v σ H R := h
theorem r_setL {R : Hp → Prop} {n j : Nat} {k : Int} (O : Sta κ I ps H) (h : ps[n]? = some (l, .lst xs)) (e : ixN xs.length k = some j) (q : ∀ H2, Sta κ I (ps.set n (l, .lst (xs.set j v))) H2 → R H2) : rSetL (.ref l) (.int k) v H R := ⟨l, xs, k, j, rfl, rfl, O.ix h, e, q _ (O.set h)⟩
theorem at_nat {α : Type} {xs : List α} {j : Nat} {x : α} (h : xs[j]? = some x) : atI xs (j : Int) = some x := by
  have hj := (List.getElem?_eq_some_iff.mp h).1
  unfold atI ixN
  rw [if_pos (by omega), if_pos (by omega)]
  simpa using h
theorem at_int {α : Type} {xs : List α} {i : Int} (h0 : 0 ≤ i) (h1 : i < xs.length) : ∃ x, atI xs i = some x ∧ xs[i.toNat]? = some x := by
  have hj : i.toNat < xs.length := by omega
  refine ⟨xs[i.toNat], ?_, List.getElem?_eq_getElem hj⟩
  have := at_nat (List.getElem?_eq_getElem hj)
  rwa [Int.toNat_of_nonneg h0] at this
theorem map_at {α β : Type} {f : α → β} {xs : List α} {i : Nat} {y : β} (h : (xs.map f)[i]? = some y) : ∃ x, xs[i]? = some x ∧ y = f x := by
  rw [List.getElem?_map] at h
  cases e : xs[i]? with
  | none => rw [e] at h; cases h
  | some x => rw [e] at h; exact ⟨x, rfl, (Option.some.inj h).symm⟩
end
end L3

namespace K09
open PySem PySem.Spec PyProof.Rows L2 L3
def top (i : Nat) : Stmt := PySem.Challenge.pw_lyingwire_k09_widths.main.body.getD i (.Pass ⟨0, 0, 0, 0⟩)
abbrev st_power_of : Stmt := top 1
abbrev st_gap_of : Stmt := top 2
abbrev st_base_of : Stmt := top 3
abbrev st_width : Stmt := top 4
abbrev st__law_deck : Stmt := top 6
abbrev st__law_draw : Stmt := top 7
abbrev st__law_pick : Stmt := top 8
abbrev st__law_order : Stmt := top 9
abbrev st__law_width : Stmt := top 10
abbrev st_law : Stmt := top 11
theorem sc_power_of : FnScope ["size", "count", "found", "step"] ["size", "count"] (defScope st_power_of) := ⟨rfl, rfl, rfl, by decide +kernel, rfl, by decide +kernel, by decide +kernel⟩
theorem sc_gap_of : FnScope ["talk", "station", "largest", "last", "number", "speaker"] ["talk", "station"] (defScope st_gap_of) := ⟨rfl, rfl, rfl, by decide +kernel, rfl, by decide +kernel, by decide +kernel⟩
theorem sc_base_of : FnScope ["talk", "station"] ["talk", "station"] (defScope st_base_of) := ⟨rfl, rfl, rfl, by decide +kernel, rfl, by decide +kernel, by decide +kernel⟩
theorem sc_width : FnScope ["talk", "station", "rounds", "turns"] ["talk", "station", "rounds"] (defScope st_width) := ⟨rfl, rfl, rfl, by decide +kernel, rfl, by decide +kernel, by decide +kernel⟩
theorem sc__law_deck : FnScope ["_law_script", "_law_cells", "_law_mixed", "_law_cell"] ["_law_script"] (defScope st__law_deck) := ⟨rfl, rfl, rfl, by decide +kernel, rfl, by decide +kernel, by decide +kernel⟩
theorem sc__law_draw : FnScope ["_law_deck_here", "_law_many", "_law_cell", "_law_number"] ["_law_deck_here", "_law_many"] (defScope st__law_draw) := ⟨rfl, rfl, rfl, by decide +kernel, rfl, by decide +kernel, by decide +kernel⟩
theorem sc__law_pick : FnScope ["_law_deck_here", "_law_some"] ["_law_deck_here", "_law_some"] (defScope st__law_pick) := ⟨rfl, rfl, rfl, by decide +kernel, rfl, by decide +kernel, by decide +kernel⟩
theorem sc__law_order : FnScope ["_law_deck_here", "_law_stations", "_law_most", "_law_way", "_law_many", "_law_first", "_law_k"] ["_law_deck_here", "_law_stations", "_law_most"] (defScope st__law_order) := ⟨rfl, rfl, rfl, by decide +kernel, rfl, by decide +kernel, by decide +kernel⟩
theorem sc__law_width : FnScope ["_law_size", "_law_order_here", "_law_who", "_law_span", "_law_k", "_law_ends", "_law_longest", "_law_base", "_law_speaker", "_law_start", "_law_end"] ["_law_size", "_law_order_here", "_law_who", "_law_span"] (defScope st__law_width) := ⟨rfl, rfl, rfl, by decide +kernel, rfl, by decide +kernel, by decide +kernel⟩
theorem sc_law : FnScope ["_law_script", "_law_deck_here", "_law_turn", "_law_size", "_law_stations", "_law_order_here", "_law_span", "_law_plan", "_law_other", "_law_kept", "_law_who", "_law_due", "_law_told"] ["_law_script"] (defScope st_law) := ⟨rfl, rfl, rfl, by decide +kernel, rfl, by decide +kernel, by decide +kernel⟩
/-- the built-in names that the text does not store -/
structure Txt (mg : Str → Option Value) : Prop where
  b_enumerate : mg "enumerate" = none
  b_len : mg "len" = none
  b_list : mg "list" = none
  b_max : mg "max" = none
  b_range : mg "range" = none
  b_repr : mg "repr" = none
  b_tuple : mg "tuple" = none
  b_zip : mg "zip" = none
section
variable {P : Program} {w : World} {K : PySem.W.Frag} {mg : Str → Option Value} {base : Heap}
noncomputable def dv_power_of (T : Txt mg) {f : Addr} {cdv : Value} {A : Around} {outer : List Env} {s : Shared} {H : Hp} {E : XK} (hgd : (A.deeper (envOfC "power_of" (defScope st_power_of) s.heap.objs.size f cdv)).guards = some []) (hr : Room 0 (A.deeper (envOfC "power_of" (defScope st_power_of) s.heap.objs.size f cdv))) :
    {t : TS // PSs (cxOf CX0 P w K mg base ["size", "count", "found", "step"] "power_of" (defScope st_power_of) f cdv A outer s H E).nox (defBody st_power_of) t} := ⟨_, (pss_cons (ps_set (i := 2) sc_power_of.nd rfl (Or.inl rfl) pe_int)
    (pss_cons (ps_for PassesOwn.never rfl (pi_range1 (by rfl) T.b_range (pa_cons (pv 1) pa_nil)) (pg_name (i := 3) sc_power_of.nd rfl (Or.inl rfl)) (pss_one (ps_aug (i := 2) sc_power_of.nd rfl (Or.inl rfl) (pv 0) ipMul)))
    (pss_one (ps_ret (pv 2)))))⟩
noncomputable def dv_gap_of (T : Txt mg) {f : Addr} {cdv : Value} {A : Around} {outer : List Env} {s : Shared} {H : Hp} {E : XK} (hgd : (A.deeper (envOfC "gap_of" (defScope st_gap_of) s.heap.objs.size f cdv)).guards = some []) (hr : Room 0 (A.deeper (envOfC "gap_of" (defScope st_gap_of) s.heap.objs.size f cdv))) :
    {t : TS // PSs (cxOf CX0 P w K mg base ["talk", "station", "largest", "last", "number", "speaker"] "gap_of" (defScope st_gap_of) f cdv A outer s H E).nox (defBody st_gap_of) t} := ⟨_, (pss_cons (ps_asg (pe_tupF (pa_cons pe_int (pa_cons (pe_un un_neg pe_int) pa_nil))) (pg_tupK (K := K) (n := 2) rfl (pgs_cons (pg_name (i := 2) sc_gap_of.nd rfl (Or.inl rfl)) (pgs_cons (pg_name (i := 3) sc_gap_of.nd rfl (Or.inl rfl)) pgs_nil))))
    (pss_cons (ps_for PassesOwn.never rfl (pi_enumK (K := K) (by rfl) T.b_enumerate (pa_cons (pe_ix (kIx (K := K)) (pv 0) pe_int (fun _ _ => rfl)) pa_nil)) (pg_tupK (K := K) (n := 2) rfl (pgs_cons (pg_name (i := 4) sc_gap_of.nd rfl (Or.inl rfl)) (pgs_cons (pg_name (i := 5) sc_gap_of.nd rfl (Or.inl rfl)) pgs_nil))) (pss_one (ps_if (pt_cmpR (kEq (K := K) hr) (pv 5) (pv 1) (by first | exact nomark _ | rfl)) (pss_cons (ps_set (i := 2) sc_gap_of.nd rfl (Or.inl rfl) (pe_callB (kMax (K := K) rfl) (by rfl) T.b_max (by decide +kernel) (pa_cons (pv 2) (pa_cons (pe_op oSub (pv 4) (pv 3)) pa_nil))))
    (pss_one (ps_set (i := 3) sc_gap_of.nd rfl (Or.inl rfl) (pv 4)))) pss_nil)))
    (pss_one (ps_ret (pv 2)))))⟩
noncomputable def dv_base_of (T : Txt mg) {sp_gap_of : Sp} {sp_power_of : Sp} (cg_gap_of : Cg P w K mg base CX0 1 "gap_of" sp_gap_of) (cg_power_of : Cg P w K mg base CX0 1 "power_of" sp_power_of) {f : Addr} {cdv : Value} {A : Around} {outer : List Env} {s : Shared} {H : Hp} {E : XK} (hgd : (A.deeper (envOfC "base_of" (defScope st_base_of) s.heap.objs.size f cdv)).guards = some []) (hr : Room 1 (A.deeper (envOfC "base_of" (defScope st_base_of) s.heap.objs.size f cdv))) :
    {t : TS // PSs (cxOf CX0 P w K mg base ["talk", "station"] "base_of" (defScope st_base_of) f cdv A outer s H E).nox (defBody st_base_of) t} := ⟨_, (pss_one (ps_ret (pe_cg cg_power_of hgd hr (by decide) (by rfl) pass0 (pa_cons (pe_ix (kIx (K := K)) (pv 0) pe_int (fun _ _ => rfl)) (pa_cons (pe_cg cg_gap_of hgd hr (by decide) (by rfl) pass0 (pa_cons (pv 0) (pa_cons (pv 1) pa_nil))) pa_nil)))))⟩
noncomputable def dv_width (T : Txt mg) {sp_base_of : Sp} (cg_base_of : Cg P w K mg base CX0 2 "base_of" sp_base_of) {f : Addr} {cdv : Value} {A : Around} {outer : List Env} {s : Shared} {H : Hp} {E : XK} (hgd : (A.deeper (envOfC "width" (defScope st_width) s.heap.objs.size f cdv)).guards = some []) (hr : Room 2 (A.deeper (envOfC "width" (defScope st_width) s.heap.objs.size f cdv))) :
    {t : TS // PSs (cxOf CX0 P w K mg base ["talk", "station", "rounds", "turns"] "width" (defScope st_width) f cdv A outer s H E).nox (defBody st_width) t} := ⟨_, (pss_cons (ps_set (i := 3) sc_width.nd rfl (Or.inl rfl) (pe_bmT PySem.F.plainAttrs_tuple PySem.F.slot_tuple_count PySem.F.type_tuple_count (kTcount (K := K)) (pe_ix (kIx (K := K)) (pv 0) pe_int (fun _ _ => rfl)) (pa_cons (pv 1) pa_nil)))
    (pss_cons (ps_if (pt_cmpR (kEq (K := K) hr) (pv 3) pe_int (by first | exact nomark _ | rfl)) (pss_one (ps_ret pe_int)) pss_nil)
    (pss_one (ps_ret (pe_op (kAdd (K := K)) pe_int (pe_op (kMulF (K := K)) (pe_cg cg_base_of hgd hr (by decide) (by rfl) pass0 (pa_cons (pv 0) (pa_cons (pv 1) pa_nil))) (pe_join (pe_ifExp (pt_cmpR (kEq (K := K) hr) (pv 3) pe_int (by first | exact nomark _ | rfl)) pe_int (pv 2)))))))))⟩
noncomputable def dv__law_deck (T : Txt mg) {f : Addr} {cdv : Value} {A : Around} {outer : List Env} {s : Shared} {H : Hp} {E : XK} (hgd : (A.deeper (envOfC "_law_deck" (defScope st__law_deck) s.heap.objs.size f cdv)).guards = some []) (hr : Room 0 (A.deeper (envOfC "_law_deck" (defScope st__law_deck) s.heap.objs.size f cdv))) :
    {t : TS // PSs (cxOf CX0 P w K mg base ["_law_script", "_law_cells", "_law_mixed", "_law_cell"] "_law_deck" (defScope st__law_deck) f cdv A outer s H E).nox (defBody st__law_deck) t} := ⟨_, (pss_cons (ps_par (i := 1) (j := 2) rfl sc__law_deck.nd rfl rfl (by decide) rfl rfl (pa_cons (pe_callTy (kList (K := K)) (by rfl) T.b_list (by decide +kernel) (pa_cons (pe_slice (kSl (K := K)) (pv 0) po_none (po_some pe_int)) pa_nil)) (pa_cons pe_int pa_nil)) (by rfl))
    (pss_cons (ps_for PassesOwn.never rfl (pi_seqK (K := K) (pv 1)) (pg_name (i := 3) sc__law_deck.nd rfl (Or.inl rfl)) (pss_one (ps_set (i := 2) sc__law_deck.nd rfl (Or.inl rfl) (pe_op oMod (pe_op (kAdd (K := K)) (pe_op (kAdd (K := K)) (pe_op (kMulF (K := K)) (pv 2) pe_int) (pe_op oMod (pv 3) pe_int)) pe_int) pe_int))))
    (pss_one (ps_ret (pe_lst (pa_cons (pe_revK (K := K) (pv 1)) (pa_cons (pv 2) (pa_cons pe_int pa_nil))))))))⟩
noncomputable def dv__law_draw (T : Txt mg) {f : Addr} {cdv : Value} {A : Around} {outer : List Env} {s : Shared} {H : Hp} {E : XK} (hgd : (A.deeper (envOfC "_law_draw" (defScope st__law_draw) s.heap.objs.size f cdv)).guards = some []) (hr : Room 0 (A.deeper (envOfC "_law_draw" (defScope st__law_draw) s.heap.objs.size f cdv))) :
    {t : TS // PSs (cxOf CX0 P w K mg base ["_law_deck_here", "_law_many", "_law_cell", "_law_number"] "_law_draw" (defScope st__law_draw) f cdv A outer s H E).nox (defBody st__law_draw) t} := ⟨_, (pss_cons (ps_asg (pe_op (kAdd (K := K)) (pe_ix (kIx (K := K)) (pv 0) pe_int (fun _ _ => rfl)) pe_int) (pg_sub (pv 0) pe_int set_list (fun _ => rfl)))
    (pss_cons (ps_set (i := 2) sc__law_draw.nd rfl (Or.inl rfl) (pe_ix (kIx (K := K)) (pv 0) pe_int (fun _ _ => rfl)))
    (pss_join (ps_if (pt_cmpR (kNe (K := K) hr) (pe_ix (kIx (K := K)) (pv 0) pe_int (fun _ _ => rfl)) (pe_lst pa_nil) (by first | exact nomark _ | rfl)) (pss_cons (ps_set (i := 2) sc__law_draw.nd rfl (Or.inl rfl) (bm0K (K := K) (pe_bm0 PySem.F.plainAttrs_list PySem.F.slot_list_pop PySem.F.type_list_pop mt_pop (pe_ix (kIx (K := K)) (pv 0) pe_int (fun _ _ => rfl)))))
    (pss_cons (ps_if (pt_cmpR oGe (pv 2) (pe_op oPow pe_int pe_int) (by first | exact nomark _ | rfl)) (pss_cons (ps_expr (bmK (K := K) (pe_bm PySem.F.plainAttrs_list PySem.F.slot_list_append PySem.F.type_list_append mt_append (pe_ix (kIx (K := K)) (pv 0) pe_int (fun _ _ => rfl)) (pa_cons (pe_op oFdiv (pv 2) (pv 1)) pa_nil))))
    (pss_one (ps_ret (pe_op oMod (pv 2) (pv 1))))) pss_nil)
    (pss_one (ps_set (i := 2) sc__law_draw.nd rfl (Or.inl rfl) (pe_op (kAdd (K := K)) (pv 2) (pe_ix (kIx (K := K)) (pv 0) pe_int (fun _ _ => rfl))))))) pss_nil)
    (pss_cons (ps_set (i := 3) sc__law_draw.nd rfl (Or.inl rfl) (pe_op oMod (pe_op (kMulF (K := K)) (pe_op (kAdd (K := K)) (pe_op (kAdd (K := K)) (pe_op oMod (pv 2) pe_int) (pe_op (kMulF (K := K)) (pe_op (kMulF (K := K)) pe_int (pe_ix (kIx (K := K)) (pv 0) pe_int (fun _ _ => rfl))) (pe_ix (kIx (K := K)) (pv 0) pe_int (fun _ _ => rfl)))) pe_int) pe_int) pe_int))
    (pss_cons (ps_set (i := 3) sc__law_draw.nd rfl (Or.inl rfl) (pe_op oMod (pe_op (kAdd (K := K)) (pe_op (kAdd (K := K)) (pe_op (kMulF (K := K)) (pv 3) (pv 3)) (pe_op (kMulF (K := K)) pe_int (pe_ix (kIx (K := K)) (pv 0) pe_int (fun _ _ => rfl)))) pe_int) pe_int))
    (pss_one (ps_ret (pe_op oMod (pe_op oFdiv (pe_op oMod (pe_op (kMulF (K := K)) (pv 3) (pe_op (kAdd (K := K)) (pe_op oFdiv (pv 3) pe_int) pe_int)) pe_int) pe_int) (pv 1)))))))))⟩
noncomputable def dv__law_pick (T : Txt mg) {sp__law_draw : Sp} (cg__law_draw : Cg P w K mg base CX0 1 "_law_draw" sp__law_draw) {f : Addr} {cdv : Value} {A : Around} {outer : List Env} {s : Shared} {H : Hp} {E : XK} (hgd : (A.deeper (envOfC "_law_pick" (defScope st__law_pick) s.heap.objs.size f cdv)).guards = some []) (hr : Room 1 (A.deeper (envOfC "_law_pick" (defScope st__law_pick) s.heap.objs.size f cdv))) :
    {t : TS // PSs (cxOf CX0 P w K mg base ["_law_deck_here", "_law_some"] "_law_pick" (defScope st__law_pick) f cdv A outer s H E).nox (defBody st__law_pick) t} := ⟨_, (pss_one (ps_ret (pe_ix (kIx (K := K)) (pv 1) (pe_cg cg__law_draw hgd hr (by decide) (by rfl) pass0 (pa_cons (pv 0) (pa_cons (pe_callB (kLen (K := K)) (by rfl) T.b_len (by decide +kernel) (pa_cons (pv 1) pa_nil)) pa_nil))) (fun _ _ => rfl))))⟩
noncomputable def dv__law_order (T : Txt mg) {sp__law_draw : Sp} (cg__law_draw : Cg P w K mg base CX0 1 "_law_draw" sp__law_draw) {f : Addr} {cdv : Value} {A : Around} {outer : List Env} {s : Shared} {H : Hp} {E : XK} (hgd : (A.deeper (envOfC "_law_order" (defScope st__law_order) s.heap.objs.size f cdv)).guards = some []) (hr : Room 1 (A.deeper (envOfC "_law_order" (defScope st__law_order) s.heap.objs.size f cdv))) :
    {t : TS // PSs (cxOf CX0 P w K mg base ["_law_deck_here", "_law_stations", "_law_most", "_law_way", "_law_many", "_law_first", "_law_k"] "_law_order" (defScope st__law_order) f cdv A outer s H E).nox (defBody st__law_order) t} := ⟨_, (pss_cons (ps_asg (pe_tupF (pa_cons (pe_cg cg__law_draw hgd hr (by decide) (by rfl) pass0 (pa_cons (pv 0) (pa_cons pe_int pa_nil))) (pa_cons (pe_cg cg__law_draw hgd hr (by decide) (by rfl) pass0 (pa_cons (pv 0) (pa_cons (pe_op (kAdd (K := K)) (pv 2) pe_int) pa_nil))) (pa_cons (pe_cg cg__law_draw hgd hr (by decide) (by rfl) pass0 (pa_cons (pv 0) (pa_cons (pv 1) pa_nil))) pa_nil)))) (pg_tupK (K := K) (n := 3) rfl (pgs_cons (pg_name (i := 3) sc__law_order.nd rfl (Or.inr rfl)) (pgs_cons (pg_name (i := 4) sc__law_order.nd rfl (Or.inl rfl)) (pgs_cons (pg_name (i := 5) sc__law_order.nd rfl (Or.inr rfl)) pgs_nil)))))
    (pss_cons (ps_if (pt_cmpR (kEq (K := K) hr) (pv 3) pe_int (by first | exact nomark _ | rfl)) (pss_one (ps_ret (pe_op (kMulF (K := K)) (pe_tupF (pa_cons (pv 5) pa_nil)) (pv 4)))) pss_nil)
    (pss_cons (ps_if (pt_cmpR oLt (pv 3) pe_int (by first | exact nomark _ | rfl)) (pss_one (ps_ret (pe_callTy (kTupleF (K := K)) (by rfl) T.b_tuple (by decide +kernel) (pa_cons (pe_lc (own := [("_law_k", 6)]) rfl sc__law_order.nd (pi_range1 (by rfl) T.b_range (pa_cons (pv 4) pa_nil)) (blkOk_by (N := ["_law_deck_here", "_law_stations", "_law_most", "_law_way", "_law_many", "_law_first", "_law_k"]) (sc := defScope st__law_order) (by decide +kernel)) (fun _ _ _ _ _ => (pg_name (i := 6) sc__law_order.nd rfl (Or.inl rfl))) (fun _ _ _ _ _ => pts_nil) (fun _ _ _ _ _ => (pe_op oMod (pe_op (kAdd (K := K)) (pv 5) (pe_op oFdiv (pv 6) (pv 3))) (pv 1)))) pa_nil)))) pss_nil)
    (pss_one (ps_ret (pe_callTy (kTupleF (K := K)) (by rfl) T.b_tuple (by decide +kernel) (pa_cons (pe_lc (own := [("_law_k", 6)]) rfl sc__law_order.nd (pi_range1 (by rfl) T.b_range (pa_cons (pv 4) pa_nil)) (blkOk_by (N := ["_law_deck_here", "_law_stations", "_law_most", "_law_way", "_law_many", "_law_first", "_law_k"]) (sc := defScope st__law_order) (by decide +kernel)) (fun _ _ _ _ _ => (pg_name (i := 6) sc__law_order.nd rfl (Or.inl rfl))) (fun _ _ _ _ _ => pts_nil) (fun _ _ _ _ _ => (pe_cg cg__law_draw hgd hr (by decide) (by rfl) pass0 (pa_cons (pv 0) (pa_cons (pv 1) pa_nil))))) pa_nil)))))))⟩
noncomputable def dv__law_width (T : Txt mg) {f : Addr} {cdv : Value} {A : Around} {outer : List Env} {s : Shared} {H : Hp} {E : XK} (hgd : (A.deeper (envOfC "_law_width" (defScope st__law_width) s.heap.objs.size f cdv)).guards = some []) (hr : Room 0 (A.deeper (envOfC "_law_width" (defScope st__law_width) s.heap.objs.size f cdv))) :
    {t : TS // PSs (cxOf CX0 P w K mg base ["_law_size", "_law_order_here", "_law_who", "_law_span", "_law_k", "_law_ends", "_law_longest", "_law_base", "_law_speaker", "_law_start", "_law_end"] "_law_width" (defScope st__law_width) f cdv A outer s H E).nox (defBody st__law_width) t} := ⟨_, (pss_cons (ps_setLc (i := 5) (own := [("_law_k", 4), ("_law_speaker", 8)]) rfl sc__law_width.nd rfl rfl (sw_true rfl rfl rfl (by decide +kernel)) (pi_enumK (K := K) (by rfl) T.b_enumerate (pa_cons (pv 1) pa_nil)) (blkOk_by (N := ["_law_size", "_law_order_here", "_law_who", "_law_span", "_law_k", "_law_ends", "_law_longest", "_law_base", "_law_speaker", "_law_start", "_law_end"]) (sc := defScope st__law_width) (by decide +kernel)) (fun _ _ _ _ _ => (pg_tupK (K := K) (n := 2) rfl (pgs_cons (pg_name (i := 4) sc__law_width.nd rfl (Or.inl rfl)) (pgs_cons (pg_name (i := 8) sc__law_width.nd rfl (Or.inl rfl)) pgs_nil)))) (fun _ _ _ _ _ => (pts_one (pt_cmpR (kEq (K := K) hr) (pv 8) (pv 2) (by first | exact nomark _ | rfl)))) (fun _ _ _ _ _ => (pe_op (kAdd (K := K)) (pv 4) pe_int)))
    (pss_cons (ps_if (pt_cmpR (kEq (K := K) hr) (pv 5) (pe_lst pa_nil) (by first | exact nomark _ | rfl)) (pss_one (ps_ret pe_int)) pss_nil)
    (pss_cons (ps_set (i := 6) sc__law_width.nd rfl (Or.inl rfl) (pe_callB (kMax (K := K) rfl) (by rfl) T.b_max (by decide +kernel) (pa_cons (pe_lc (own := [("_law_start", 9), ("_law_end", 10)]) rfl sc__law_width.nd (pi_zipK (K := K) (by rfl) T.b_zip (pa_cons (pe_op (kAdd (K := K)) (pe_lst (pa_cons pe_int pa_nil)) (pv 5)) (pa_cons (pv 5) pa_nil))) (blkOk_by (N := ["_law_size", "_law_order_here", "_law_who", "_law_span", "_law_k", "_law_ends", "_law_longest", "_law_base", "_law_speaker", "_law_start", "_law_end"]) (sc := defScope st__law_width) (by decide +kernel)) (fun _ _ _ _ _ => (pg_tupK (K := K) (n := 2) rfl (pgs_cons (pg_name (i := 9) sc__law_width.nd rfl (Or.inl rfl)) (pgs_cons (pg_name (i := 10) sc__law_width.nd rfl (Or.inl rfl)) pgs_nil)))) (fun _ _ _ _ _ => pts_nil) (fun _ _ _ _ _ => (pe_op oSub (pv 10) (pv 9)))) pa_nil)))
    (pss_cons (ps_set (i := 7) sc__law_width.nd rfl (Or.inl rfl) pe_int)
    (pss_cons (ps_for PassesOwn.never rfl (pi_range1 (by rfl) T.b_range (pa_cons (pv 6) pa_nil)) (pg_name (i := 4) sc__law_width.nd rfl (Or.inl rfl)) (pss_one (ps_set (i := 7) sc__law_width.nd rfl (Or.inl rfl) (pe_op (kMulF (K := K)) (pv 7) (pv 0)))))
    (pss_one (ps_ret (pe_op (kAdd (K := K)) pe_int (pe_op (kMulF (K := K)) (pv 7) (pe_join (pe_ifExp (pt_cmpR oGt (pe_callB (kLen (K := K)) (by rfl) T.b_len (by decide +kernel) (pa_cons (pv 5) pa_nil)) pe_int (by first | exact nomark _ | rfl)) (pv 3) pe_int)))))))))))⟩
noncomputable def dv_law (T : Txt mg) {sp__law_deck : Sp} {sp__law_draw : Sp} {sp__law_order : Sp} {sp__law_pick : Sp} {sp__law_width : Sp} {sp_width : Sp} {sk_width : Sp} (cg__law_deck : Cg P w K mg base CX0 1 "_law_deck" sp__law_deck) (cg__law_draw : Cg P w K mg base CX0 1 "_law_draw" sp__law_draw) (cg__law_order : Cg P w K mg base CX0 2 "_law_order" sp__law_order) (cg__law_pick : Cg P w K mg base CX0 2 "_law_pick" sp__law_pick) (cg__law_width : Cg P w K mg base CX0 1 "_law_width" sp__law_width) (cg_width : Cg P w K mg base CX0 3 "width" sp_width) (ck_width : Cgk P w K mg base CX0 3 "width" ["rounds", "station", "talk"] sk_width) {f : Addr} {cdv : Value} {A : Around} {outer : List Env} {s : Shared} {H : Hp} {E : XK} (hgd : (A.deeper (envOfC "law" (defScope st_law) s.heap.objs.size f cdv)).guards = some []) (hr : Room 3 (A.deeper (envOfC "law" (defScope st_law) s.heap.objs.size f cdv))) :
    {t : TS // PSs (cxOf CX0 P w K mg base ["_law_script", "_law_deck_here", "_law_turn", "_law_size", "_law_stations", "_law_order_here", "_law_span", "_law_plan", "_law_other", "_law_kept", "_law_who", "_law_due", "_law_told"] "law" (defScope st_law) f cdv A outer s H E).nox (defBody st_law) t} := ⟨_, (pss_cons (ps_set (i := 1) sc_law.nd rfl (Or.inl rfl) (pe_cg cg__law_deck hgd hr (by decide) (by rfl) pass0 (pa_cons (pv 0) pa_nil)))
    (pss_cons (ps_for PassesOwn.never rfl (pi_range1 (by rfl) T.b_range (pa_cons pe_int pa_nil)) (pg_name (i := 2) sc_law.nd rfl (Or.inl rfl)) (pss_cons (ps_par (i := 3) (j := 4) rfl sc_law.nd rfl rfl (by decide) rfl rfl (pa_cons (pe_op (kAdd (K := K)) pe_int (pe_cg cg__law_draw hgd hr (by decide) (by rfl) pass0 (pa_cons (pv 1) (pa_cons pe_int pa_nil)))) (pa_cons (pe_op (kAdd (K := K)) pe_int (pe_cg cg__law_draw hgd hr (by decide) (by rfl) pass0 (pa_cons (pv 1) (pa_cons pe_int pa_nil)))) pa_nil)) (by rfl))
    (pss_cons (ps_set (i := 5) sc_law.nd rfl (Or.inl rfl) (pe_cg cg__law_order hgd hr (by decide) (by rfl) pass0 (pa_cons (pv 1) (pa_cons (pv 4) (pa_cons pe_int pa_nil)))))
    (pss_cons (ps_set (i := 6) sc_law.nd rfl (Or.inl rfl) (pe_cg cg__law_pick hgd hr (by decide) (by rfl) pass0 (pa_cons (pv 1) (pa_cons (pe_lst (pa_cons pe_int (pa_cons pe_int (pa_cons pe_int (pa_cons pe_int (pa_cons (pe_cg cg__law_draw hgd hr (by decide) (by rfl) pass0 (pa_cons (pv 1) (pa_cons pe_int pa_nil))) pa_nil)))))) pa_nil))))
    (pss_cons (ps_set (i := 7) sc_law.nd rfl (Or.inl rfl) (pe_tupF (pa_cons (pv 3) (pa_cons (pe_op (kMulF (K := K)) (pe_tupF (pa_cons (pe_tupF (pa_cons (pe_tupF pa_nil) (pa_cons (pe_tupF pa_nil) (pa_cons (pe_cg cg__law_draw hgd hr (by decide) (by rfl) pass0 (pa_cons (pv 1) (pa_cons pe_int pa_nil))) pa_nil)))) pa_nil)) (pv 4)) (pa_cons (pv 5) pa_nil)))))
    (pss_cons (ps_set (i := 8) sc_law.nd rfl (Or.inl rfl) (pe_tupF (pa_cons (pv 3) (pa_cons (pe_op (kMulF (K := K)) (pe_tupF (pa_cons (pe_tupF (pa_cons (pe_tupF (pa_cons (pe_tupF (pa_cons pe_str (pa_cons pe_int (pa_cons (pe_tupF (pa_cons pe_str pa_nil)) pa_nil)))) pa_nil)) (pa_cons (pe_tupF pa_nil) (pa_cons (pe_tupF (pa_cons pe_str (pa_cons pe_int pa_nil))) pa_nil)))) pa_nil)) (pv 4)) (pa_cons (pv 5) pa_nil)))))
    (pss_cons (ps_set (i := 9) sc_law.nd rfl (Or.inl rfl) (pe_callB (kRepr (K := K) hgd hr) (by rfl) T.b_repr (by decide +kernel) (pa_cons (pe_tupF (pa_cons (pv 7) (pa_cons (pv 8) pa_nil))) pa_nil)))
    (pss_cons (ps_for PassesOwn.never rfl (pi_range1 (by rfl) T.b_range (pa_cons (pv 4) pa_nil)) (pg_name (i := 10) sc_law.nd rfl (Or.inl rfl)) (pss_cons (ps_set (i := 11) sc_law.nd rfl (Or.inl rfl) (pe_cg cg__law_width hgd hr (by decide) (by rfl) pass0 (pa_cons (pv 3) (pa_cons (pv 5) (pa_cons (pv 10) (pa_cons (pv 6) pa_nil))))))
    (pss_cons (ps_set (i := 12) sc_law.nd rfl (Or.inl rfl) (pe_lst (pa_cons (pe_cg cg_width hgd hr (by decide) (by rfl) pass0 (pa_cons (pv 7) (pa_cons (pv 10) (pa_cons (pv 6) pa_nil)))) (pa_cons (pe_cgk ck_width hgd hr (by decide) (by rfl) pass0 (pk_cons (pv 6) (pk_cons (pv 10) (pk_cons (pv 8) pk_nil)))) pa_nil))))
    (pss_one (ps_if (pt_cmpR (kNe (K := K) hr) (pe_callB (kRepr (K := K) hgd hr) (by rfl) T.b_repr (by decide +kernel) (pa_cons (pv 12) pa_nil)) (pe_callB (kRepr (K := K) hgd hr) (by rfl) T.b_repr (by decide +kernel) (pa_cons (pe_lst (pa_cons (pv 11) (pa_cons (pv 11) pa_nil))) pa_nil)) (by first | exact nomark _ | rfl)) (pss_one (ps_ret pe_bl)) pss_nil)))))
    (pss_one (ps_if (pt_cmpR (kNe (K := K) hr) (pe_callB (kRepr (K := K) hgd hr) (by rfl) T.b_repr (by decide +kernel) (pa_cons (pe_tupF (pa_cons (pv 7) (pa_cons (pv 8) pa_nil))) pa_nil)) (pv 9) (by first | exact nomark _ | rfl)) (pss_one (ps_ret pe_bl)) pss_nil))))))))))
    (pss_one (ps_ret pe_bl))))⟩
end
end K09

open PySem PySem.Spec PyProof.Rows L2 L3

local macro_rules | `(tactic| wtm_at "ex") => `(tactic| first | assumption | exact Ex.back (by assumption) (by wtm_at "ex") | exact Ex.refl _)
local macro_rules | `(tactic| wtm_at "at") => `(tactic| first | assumption | exact At.up (by assumption) (by wtm_at "at"))
local macro_rules | `(tactic| wtm_at "tupf") => `(tactic| first | assumption | exact TupF.up (by assumption) (by wtm_at "tupf"))
local macro_rules | `(tactic| wtm_at "sqt") => `(tactic| first | assumption | exact TupF.sq (by assumption) | exact SqT.of (by assumption) | exact SqT.up (by assumption) (by wtm_at "sqt"))
local macro_rules | `(tactic| wtm_at "sql") => `(tactic| first | assumption | exact Sta.pL (i := 0) (by assumption) (by with_unfolding_all exact rfl) | exact Sta.pL (i := 1) (by assumption) (by with_unfolding_all exact rfl) | exact Sta.pL (i := 2) (by assumption) (by with_unfolding_all exact rfl) | exact Sta.sL (by assumption) (SqL.of (by wtm_at "at")))
local macro_rules | `(tactic| wtm_at "set") => `(tactic| first | (dsimp only [List.set_cons_zero, List.set_cons_succ]; done) | (dsimp only [List.set_cons_zero, List.set_cons_succ]; exact rfl))
local macro_rules | `(tactic| wtm_at "dps") => `(tactic| first | exact DpAll.nil | exact dpAll_ints _ | exact DpAll.cons (by wtm_at "dp") (by wtm_at "dps"))
local macro_rules | `(tactic| wtm_at "dp") => `(tactic| first | exact Dp.int _ | exact Dp.non | exact Dp.bl _ | exact Dp.str _ | assumption | exact Dp.tup (by wtm_at "sqt") (by wtm_at "dps") | exact Dp.lst (SqL.of (by wtm_at "at")) (by wtm_at "dps") | exact Dp.up (by assumption) (by wtm_at "dp"))
local macro_rules | `(tactic| wtm_at "len") => `(tactic| first | (with_unfolding_all decide) | (simp only [List.length_cons, List.length_nil, List.length_append, List.length_map]; first | (unfold sizeLine; omega) | (with_unfolding_all decide)))
local macro_rules | `(tactic| wtm_at "mul") => `(tactic| with_unfolding_all first | exact Or.inr ⟨by omega, by omega⟩ | exact Or.inl ⟨by omega, by omega⟩)
local macro_rules | `(tactic| wtm_at "num") => `(tactic| first | (with_unfolding_all decide) | omega)
local macro_rules | `(tactic| wtm_at "cond") => `(tactic| with_unfolding_all first | decide | omega | exact ⟨by wtm_at "num", by wtm_at "num"⟩ | exact ⟨by wtm_at "num", by wtm_at "num", by wtm_at "num"⟩)
local macro_rules | `(tactic| wtm_at "un") => `(tactic| dsimp only [tSeq, tAsg, tOp, tUn, tC, tCons, tNil, tCB, tTest, tTruth, tDrop, tRet, tRetN, tIfS, tNext, tBreak, tCont, tPar, tPar3, tAnd, tOr, tNot, tAndV, tOrV, tNotV, tIf, tChain, tSl, tNoPart, tPart, tStar, tTupF, tBMT, tBM, tBM0, gSub, tYes, iRng1, iRng2, iSeq, iEnumS, iZipS])
local macro_rules | `(tactic| wtm_at "g") => `(tactic| with_reducible first
  | refine r_var (by with_unfolding_all rfl) ?_ | refine r_gname (by wtm_at "set") ?_ | refine r_gcons ?_ | refine r_gnil ?_
  | refine r_addI ?_ | refine r_I0 ?_ | refine r_eqI ?_ | refine r_neI ?_ | refine r_exB ?_ | refine r_exI ?_ | refine r_ex2 ?_ | refine r_iteT ?_ | refine r_iteF ?_ | refine r_iteN ?_
  | refine r_call ?_ | refine r_lst ?_ | refine r_revL ?_ | refine r_for ?_ | refine r_lc ?_ | refine r_aug (by with_unfolding_all rfl) ?_
  | refine r_ixT (by assumption) (by wtm_at "sqt") (by with_unfolding_all rfl) ?_ | refine r_ixL (by assumption) (by wtm_at "sql") (by with_unfolding_all rfl) ?_
  | refine r_I (by wtm_at "cond") ?_ | refine r_mulI (by wtm_at "mul") ?_ | refine r_rU ?_ | refine r_isN ?_ | refine r_notN ?_ | refine r_ex3 ?_ | refine r_truB ?_
  | refine r_gtup (by assumption) (by wtm_at "sqt") (by with_unfolding_all rfl) ?_
  | refine r_starT (by assumption) (by wtm_at "sqt") ?_ | (refine r_newT (by assumption) (by wtm_at "len") ?_; intro _ _ _ _ _ _)
  | refine r_lenT (by assumption) (by wtm_at "sqt") ?_ | refine r_lenL (by wtm_at "sql") ?_ | refine r_max2 ?_ | refine r_min2 ?_ | refine r_int1 ?_
  | refine r_tyT (by assumption) (by wtm_at "tupf") ?_ | refine r_cntT (by assumption) (by wtm_at "sqt") ?_ | refine r_tyL (by wtm_at "sql") ?_
  | refine r_rng1k (by omega) (by omega) ?_ | refine r_rng2k (by omega) ?_
  | refine r_seqT (by assumption) (by wtm_at "sqt") ?_ | refine r_seqL (by wtm_at "sql") ?_ | refine r_enumT (by assumption) (by wtm_at "sqt") ?_ | refine r_enumL (by wtm_at "sql") ?_
  | refine r_cturn (by with_unfolding_all rfl) ?_
  | refine r_nx ?_ | refine r_rt ?_ | refine r_ct ?_ | refine r_bk ?_)
local macro_rules | `(tactic| wtm_at "gg") => `(tactic| ((try wtm_at "un"); repeat first | wtm_at "g" | wtm_at "un"))

namespace K09
/-! the numbers -/
def powN (n : Int) : Nat → Int
  | 0 => 1
  | k + 1 => powN n k * n
theorem powN_bound {n : Int} (h0 : 0 ≤ n) (h9 : n ≤ 9) : ∀ k : Nat, k ≤ 8 → 0 ≤ powN n k ∧ powN n k ≤ 9 ^ k := by
  intro k
  induction k with
  | zero => intro _; exact ⟨by show (0 : Int) ≤ 1; decide, by show (1 : Int) ≤ 9 ^ 0; decide⟩
  | succ k ih =>
    intro hk
    obtain ⟨a, b⟩ := ih (by omega)
    refine ⟨Int.mul_nonneg a h0, ?_⟩
    rw [Int.pow_succ]
    exact Int.mul_le_mul b h9 h0 (by exact Int.pow_nonneg (by decide))
theorem pow9 : ∀ k : Nat, k ≤ 8 → (9 : Int) ^ k ≤ 43046721 := by
  intro k hk
  have : k = 0 ∨ k = 1 ∨ k = 2 ∨ k = 3 ∨ k = 4 ∨ k = 5 ∨ k = 6 ∨ k = 7 ∨ k = 8 := by omega
  rcases this with h | h | h | h | h | h | h | h | h <;> subst h <;> decide
/-- the greatest gap and the last turn so far -/
def gapGo (st : Int) : List Int → Int → Int → Int → Int × Int
  | [], _, lg, la => (lg, la)
  | x :: xs, i, lg, la => if x = st then gapGo st xs (i + 1) (if i - la > lg then i - la else lg) i else gapGo st xs (i + 1) lg la
theorem gapGo_cons (st x : Int) (xs : List Int) (i lg la : Int) : gapGo st (x :: xs) i lg la = if x = st then gapGo st xs (i + 1) (if i - la > lg then i - la else lg) i else gapGo st xs (i + 1) lg la := by rw [gapGo]
def gapOf (order : List Int) (st : Int) : Int := (gapGo st order 0 0 (-1)).1
theorem gapGo_bound (st : Int) : ∀ (xs : List Int) (i lg la : Int), 0 ≤ lg → lg ≤ i → -1 ≤ la → la < i → 0 ≤ (gapGo st xs i lg la).1 ∧ (gapGo st xs i lg la).1 ≤ i + xs.length
  | [], i, lg, la, h1, h2, _, _ => ⟨h1, by show lg ≤ i + ((0 : Nat) : Int); omega⟩
  | x :: xs, i, lg, la, h1, h2, h3, h4 => by
    unfold gapGo
    rw [List.length_cons]
    split
    · have := gapGo_bound st xs (i + 1) (if i - la > lg then i - la else lg) i (by split <;> omega) (by split <;> omega) (by omega) (by omega)
      constructor <;> omega
    · have := gapGo_bound st xs (i + 1) lg la h1 (by omega) h3 (by omega)
      constructor <;> omega
theorem gapOf_bound (order : List Int) (st : Int) : 0 ≤ gapOf order st ∧ gapOf order st ≤ order.length := by
  have := gapGo_bound st order 0 0 (-1) (by omega) (by omega) (by omega) (by omega)
  unfold gapOf
  omega
def widthN (size : Int) (order : List Int) (st rounds : Int) : Int := if (order.count st : Int) = 0 then 1 else 1 + powN size (gapOf order st).toNat * (if (order.count st : Int) = 1 then 1 else rounds)
/-- the turns' ends, and the gaps between them -/
def endsOf (st : Int) : List Int → Int → List Int
  | [], _ => []
  | x :: xs, i => if x = st then (i + 1) :: endsOf st xs (i + 1) else endsOf st xs (i + 1)
def difs (st : Int) : List Int → Int → Int → List Int
  | [], _, _ => []
  | x :: xs, i, la => if x = st then (i - la) :: difs st xs (i + 1) i else difs st xs (i + 1) la
theorem ends_len (st : Int) : ∀ (xs : List Int) (i : Int), (endsOf st xs i).length = xs.count st
  | [], _ => rfl
  | x :: xs, i => by
    unfold endsOf
    rw [List.count_cons]
    by_cases h : x = st
    · rw [if_pos h, List.length_cons, ends_len st xs, if_pos (by simp [h])]
    · rw [if_neg h, ends_len st xs, if_neg (by simp [h])]
      omega
theorem difs_zip (st : Int) : ∀ (xs : List Int) (i la : Int), ((la + 1) :: endsOf st xs i).zipWith (fun a b => b - a) (endsOf st xs i) = difs st xs i la
  | [], _, _ => rfl
  | x :: xs, i, la => by
    unfold endsOf difs
    by_cases h : x = st
    · rw [if_pos h, if_pos h, List.zipWith_cons_cons, difs_zip st xs (i + 1) i]
      congr 1
      omega
    · rw [if_neg h, if_neg h]
      exact difs_zip st xs (i + 1) la
theorem gap_max (st : Int) : ∀ (xs : List Int) (i lg la : Int), (lg ≤ (gapGo st xs i lg la).1) ∧ (∀ d ∈ difs st xs i la, d ≤ (gapGo st xs i lg la).1) ∧ ((gapGo st xs i lg la).1 = lg ∨ (gapGo st xs i lg la).1 ∈ difs st xs i la)
  | [], i, lg, la => ⟨Int.le_refl _, fun d h => absurd h List.not_mem_nil, .inl rfl⟩
  | x :: xs, i, lg, la => by
    unfold gapGo difs
    by_cases h : x = st
    · rw [if_pos h, if_pos h]
      obtain ⟨a, b, c⟩ := gap_max st xs (i + 1) (if i - la > lg then i - la else lg) i
      have ha : lg ≤ (if i - la > lg then i - la else lg) ∧ i - la ≤ (if i - la > lg then i - la else lg) := by split <;> omega
      refine ⟨by omega, fun d hd => ?_, ?_⟩
      · rcases List.mem_cons.mp hd with rfl | hd
        · omega
        · exact b d hd
      · rcases c with c | c
        · rw [c]
          split
          · exact .inr List.mem_cons_self
          · exact .inl rfl
        · exact .inr (List.mem_cons_of_mem _ c)
    · rw [if_neg h, if_neg h]
      exact gap_max st xs (i + 1) lg la
theorem difs_pos (st : Int) : ∀ (xs : List Int) (i la : Int), la < i → ∀ d ∈ difs st xs i la, 0 < d
  | [], _, _, _, d, h => absurd h List.not_mem_nil
  | x :: xs, i, la, hl, d, h => by
    unfold difs at h
    split at h
    · rcases List.mem_cons.mp h with rfl | h
      · omega
      · exact difs_pos st xs (i + 1) i (by omega) d h
    · exact difs_pos st xs (i + 1) la (by omega) d h
theorem gap_is {st : Int} {order : List Int} {m : Int} (hm : m ∈ difs st order 0 (-1)) (hb : ∀ y ∈ difs st order 0 (-1), y ≤ m) : m = gapOf order st := by
  obtain ⟨a, b, c⟩ := gap_max st order 0 0 (-1)
  have h1 := difs_pos st order 0 (-1) (by omega) m hm
  have h2 := b m hm
  unfold gapOf
  rcases c with c | c
  · omega
  · have := hb _ c
    omega
/-! the promises -/
/-- a talk: a tuple of its size, the programs, the order -/
def IsTalk (K : PySem.W.Frag) (I : Hp) (t : Addr) (size : Int) (order : List Int) : Prop := ∃ (p : V) (o : Addr), SqT K I t [.int size, p, .ref o] ∧ TupF I o (order.map V.int)
def TalkOk (size : Int) (order : List Int) : Prop := 0 ≤ size ∧ size ≤ 9 ∧ order.length ≤ 8
def sp_power_of : Sp := fun vs H Q _ => ∃ (κ : Kn) (I : Hp) (ps : PL) (s c : Int), vs = [.int s, .int c] ∧ Sta κ I ps H ∧ 0 ≤ s ∧ s ≤ 9 ∧ 0 ≤ c ∧ c ≤ 100 ∧ ∀ H2, Sta κ I ps H2 → Q (.int (powN s c.toNat)) H2
def sp_gap_of (K : PySem.W.Frag) : Sp := fun vs H Q _ => ∃ (κ : Kn) (I : Hp) (ps : PL) (t : Addr) (size : Int) (order : List Int) (st : Int), vs = [.ref t, .int st] ∧ Sta κ I ps H ∧ IsTalk K I t size order ∧ TalkOk size order ∧ ∀ H2, Sta κ I ps H2 → Q (.int (gapOf order st)) H2
def sp_base_of (K : PySem.W.Frag) : Sp := fun vs H Q _ => ∃ (κ : Kn) (I : Hp) (ps : PL) (t : Addr) (size : Int) (order : List Int) (st : Int), vs = [.ref t, .int st] ∧ Sta κ I ps H ∧ IsTalk K I t size order ∧ TalkOk size order ∧ ∀ H2, Sta κ I ps H2 → Q (.int (powN size (gapOf order st).toNat)) H2
def sp_width (K : PySem.W.Frag) : Sp := fun vs H Q _ => ∃ (κ : Kn) (I : Hp) (ps : PL) (t : Addr) (size : Int) (order : List Int) (st r : Int), vs = [.ref t, .int st, .int r] ∧ Sta κ I ps H ∧ IsTalk K I t size order ∧ TalkOk size order ∧ 0 ≤ r ∧ r ≤ 30 ∧ ∀ H2, Sta κ I ps H2 → Q (.int (widthN size order st r)) H2
section
variable {P : Program} {w : World} {K : PySem.W.Frag} {mg : Str → Option Value} {base : Heap}
theorem ok_power_of (T : Txt mg) {f : Addr} {fd : FuncData} (F : Fun K "power_of" "power_of" st_power_of f fd) : FnG P w K mg base CX0 1 f fd ["size", "count"] sp_power_of := by
  refine okG F sc_power_of (fun vs H Q E h => ?_) (fun cdv A outer s H vs Q E hgd hr h => ⟨_, (dv_power_of T hgd hr).2, ?_⟩)
  · obtain ⟨κ, I, ps, s, c, rfl, _⟩ := h
    rfl
  · obtain ⟨κ, I, ps, sz, c, rfl, O, h0, h1, h2, h3, k⟩ := h
    dsimp only [dv_power_of]
    have es : start ["size", "count", "found", "step"] [V.int sz, .int c] = [some (V.int sz), some (.int c), none, none] := rfl
    rw [es]
    wtm_at "gg"
    refine loop_rng0 (fun _ => κ) (fun i σ J ps1 => ps1 = ps ∧ ∃ v, σ = [some (V.int sz), some (.int c), some (.int (powN sz i)), v]) (by assumption) ⟨rfl, _, rfl⟩ ?_ ?_
    · rintro i σ J ps1 H1 hi e O1 ⟨rfl, v, rfl⟩
      wtm_at "gg"
      refine r_I (.inr (by omega)) ?_
      wtm_at "gg"
      exact r_linv e O1 ⟨rfl, _, rfl⟩
    · rintro σ J ps1 H1 e O1 ⟨rfl, v, rfl⟩
      wtm_at "gg"
      exact k _ (O1.back e)
theorem ok_gap_of (T : Txt mg) {f : Addr} {fd : FuncData} (F : Fun K "gap_of" "gap_of" st_gap_of f fd) : FnG P w K mg base CX0 1 f fd ["talk", "station"] (sp_gap_of K) := by
  refine okG F sc_gap_of (fun vs H Q E h => ?_) (fun cdv A outer s H vs Q E hgd hr h => ⟨_, (dv_gap_of T hgd hr).2, ?_⟩)
  · obtain ⟨κ, I, ps, t, size, order, st, rfl, _⟩ := h
    rfl
  · obtain ⟨κ, I, ps, t, size, order, st, rfl, O, ⟨pv, od, ht, ho⟩, hk, k⟩ := h
    dsimp only [dv_gap_of]
    have es : start ["talk", "station", "largest", "last", "number", "speaker"] [V.ref t, .int st] = [some (V.ref t), some (.int st), none, none, none, none] := rfl
    rw [es]
    wtm_at "gg"
    refine loop_enumT (fun _ => κ) (fun i σ J ps1 => ps1 = ps ∧ ∃ lg la v1 v2, σ = [some (V.ref t), some (.int st), some (.int lg), some (.int la), v1, v2] ∧ gapGo st (order.drop i) i lg la = gapGo st order 0 0 (-1)) (by assumption) (by wtm_at "sqt") ⟨rfl, _, _, _, _, rfl, rfl⟩ ?_ ?_
    · rintro i x σ J ps1 H1 hi e O1 ⟨rfl, lg, la, v1, v2, rfl, hg⟩
      obtain ⟨n, hn, rfl⟩ := map_at hi
      obtain ⟨hl, hn'⟩ := List.getElem?_eq_some_iff.mp hn
      rw [List.drop_eq_getElem_cons hl, hn', gapGo_cons] at hg
      wtm_at "gg"
      refine r_ite (fun h => ?_) (fun h => ?_)
      · rw [if_pos h] at hg
        wtm_at "gg"
        exact r_linv e O1 ⟨rfl, _, _, _, _, rfl, by rw [Int.natCast_succ]; exact hg⟩
      · rw [if_neg h] at hg
        wtm_at "gg"
        exact r_linv e O1 ⟨rfl, _, _, _, _, rfl, by rw [Int.natCast_succ]; exact hg⟩
    · rintro σ J ps1 H1 e O1 ⟨rfl, lg, la, v1, v2, rfl, hg⟩
      wtm_at "gg"
      rw [List.length_map, List.drop_length] at hg
      have : lg = gapOf order st := by
        unfold gapOf
        rw [← hg]
        rfl
      subst this
      exact k _ (O1.back (by wtm_at "ex"))
theorem IsTalk.up {I J : Hp} {t : Addr} {size : Int} {order : List Int} (e : Ex I J) (h : IsTalk K I t size order) : IsTalk K J t size order := let ⟨p, o, h1, h2⟩ := h; ⟨p, o, SqT.up e h1, TupF.up e h2⟩
theorem ok_base_of (T : Txt mg) (c1 : Cg P w K mg base CX0 1 "gap_of" (sp_gap_of K)) (c2 : Cg P w K mg base CX0 1 "power_of" sp_power_of) {f : Addr} {fd : FuncData} (F : Fun K "base_of" "base_of" st_base_of f fd) : FnG P w K mg base CX0 2 f fd ["talk", "station"] (sp_base_of K) := by
  refine okG F sc_base_of (fun vs H Q E h => ?_) (fun cdv A outer s H vs Q E hgd hr h => ⟨_, (dv_base_of T c1 c2 hgd hr).2, ?_⟩)
  · obtain ⟨κ, I, ps, t, size, order, st, rfl, _⟩ := h
    rfl
  · obtain ⟨κ, I, ps, t, size, order, st, rfl, O, ht, hk, k⟩ := h
    dsimp only [dv_base_of]
    have es : start ["talk", "station"] [V.ref t, .int st] = [some (V.ref t), some (.int st)] := rfl
    rw [es]
    obtain ⟨pv, od, ht1, ho⟩ := id ht
    wtm_at "gg"
    have hb := gapOf_bound order st
    refine ⟨_, _, _, _, _, _, _, rfl, O, ht, hk, fun H2 O2 => ?_⟩
    wtm_at "gg"
    exact ⟨_, _, _, _, _, rfl, O2, hk.1, hk.2.1, hb.1, by have := hk.2.2; omega, fun H3 O3 => k _ O3⟩
theorem ok_width (T : Txt mg) (c1 : Cg P w K mg base CX0 2 "base_of" (sp_base_of K)) {f : Addr} {fd : FuncData} (F : Fun K "width" "width" st_width f fd) : FnG P w K mg base CX0 3 f fd ["talk", "station", "rounds"] (sp_width K) := by
  refine okG F sc_width (fun vs H Q E h => ?_) (fun cdv A outer s H vs Q E hgd hr h => ⟨_, (dv_width T c1 hgd hr).2, ?_⟩)
  · obtain ⟨κ, I, ps, t, size, order, st, r, rfl, _⟩ := h
    rfl
  · obtain ⟨κ, I, ps, t, size, order, st, r, rfl, O, ht, hk, h0, h1, k⟩ := h
    dsimp only [dv_width]
    have es : start ["talk", "station", "rounds", "turns"] [V.ref t, .int st, .int r] = [some (V.ref t), some (.int st), some (.int r), none] := rfl
    rw [es]
    obtain ⟨pv, od, ht1, ho⟩ := id ht
    unfold widthN at k
    wtm_at "gg"
    refine r_ite (fun h => ?_) (fun h => ?_)
    · wtm_at "gg"
      rw [if_pos h] at k
      exact k _ O
    · rw [if_neg h] at k
      wtm_at "gg"
      have hb := gapOf_bound order st
      refine ⟨_, _, _, _, _, _, _, rfl, O, ht, hk, fun H2 O2 => ?_⟩
      wtm_at "gg"
      refine ⟨fun v H => v = .int (if (order.count st : Int) = 1 then 1 else r) ∧ Sta κ I ps H, ?_, ?_⟩
      · wtm_at "gg"
        refine r_ite (fun h => ?_) (fun h => ?_) <;> wtm_at "gg"
        · exact ⟨by rw [if_pos h], O2⟩
        · exact ⟨by rw [if_neg h], O2⟩
      · rintro v H3 ⟨rfl, O3⟩
        have hi : 0 ≤ (if (order.count st : Int) = 1 then 1 else r) ∧ (if (order.count st : Int) = 1 then 1 else r) ≤ 30 := by split <;> omega
        refine r_mulI (.inr (by omega)) ?_
        wtm_at "gg"
        exact k _ O3
end
end K09

namespace K09
/-! the deck -/
def sp_deck (K : PySem.W.Frag) : Sp := fun vs H Q _ => ∃ (I : Hp) (ps : PL) (a : Addr) (ns : List Int), vs = [.ref a] ∧ Sta .own I ps H ∧ SqL K I a (ns.map V.int) ∧ ns.length ≤ 63 ∧ ∀ d H2, Sta (.deck d 0) I ps H2 → Q (.ref d) H2
def sp_draw : Sp := fun vs H Q _ => ∃ (d : Addr) (n : Int) (I : Hp) (ps : PL) (m : Int), vs = [.ref d, .int m] ∧ Sta (.deck d n) I ps H ∧ n ≤ 1000000000 ∧ 1 ≤ m ∧ m ≤ 1000000000 ∧ ∀ r H2, 0 ≤ r → r < m → Sta (.deck d (n + 1)) I ps H2 → Q (.int r) H2
section
variable {P : Program} {w : World} {K : PySem.W.Frag} {mg : Str → Option Value} {base : Heap}
theorem cut_ints (ns : List Int) (lo hi : Option Int) : ∃ ms : List Int, cutV (ns.map V.int) lo hi = ms.map V.int ∧ ms.length ≤ ns.length := by
  refine ⟨(ns.drop (HT.sIx (ns.map V.int).length 0 lo)).take (HT.sIx (ns.map V.int).length (ns.map V.int).length hi - HT.sIx (ns.map V.int).length 0 lo), ?_, ?_⟩
  · unfold cutV
    rw [List.map_take, List.map_drop]
  · rw [List.length_take, List.length_drop]
    omega
theorem ok_deck (T : Txt mg) {f : Addr} {fd : FuncData} (F : Fun K "_law_deck" "_law_deck" st__law_deck f fd) : FnG P w K mg base CX0 1 f fd ["_law_script"] (sp_deck K) := by
  refine okG F sc__law_deck (fun vs H Q E h => ?_) (fun cdv A outer s H vs Q E hgd hr h => ⟨_, (dv__law_deck T hgd hr).2, ?_⟩)
  · obtain ⟨I, ps, a, ns, rfl, _⟩ := h
    rfl
  · obtain ⟨I, ps, a, ns, rfl, O, ha, hl, k⟩ := h
    dsimp only [dv__law_deck]
    have es : start ["_law_script", "_law_cells", "_law_mixed", "_law_cell"] [V.ref a] = [some (V.ref a), none, none, none] := rfl
    rw [es]
    wtm_at "gg"
    refine r_slL O (O.sL ha) ?_
    intro p J H2 O2 e hp
    obtain ⟨ms, em, hm⟩ := cut_ints ns none (some 63)
    rw [em] at hp
    wtm_at "gg"
    refine r_listT O2 (.inl (by wtm_at "sql")) ?_
    intro c H3 O3
    wtm_at "gg"
    refine loop_seqL (xs := ms.map V.int) (fun _ => .own) (fun i σ J1 ps1 => ps1 = (c, .lst (ms.map V.int)) :: ps ∧ ∃ m v, σ = [some (V.ref a), some (.ref c), some (.int m), v] ∧ 0 ≤ m ∧ m < 4294967296) O3 ?_ ⟨rfl, _, _, rfl, by decide, by decide⟩ ?_ ?_
    · rintro i σ J1 ps1 H1 e1 O1 ⟨rfl, _⟩
      wtm_at "sql"
    · rintro i x σ J1 ps1 H1 hi e1 O1 ⟨rfl, m, v, rfl, h0, h1⟩
      obtain ⟨n, hn, rfl⟩ := map_at hi
      wtm_at "gg"
      exact r_linv e1 O1 ⟨rfl, _, _, rfl, by omega, by omega⟩
    · rintro σ J1 ps1 H1 e1 O1 ⟨rfl, m, v, rfl, h0, h1⟩
      wtm_at "gg"
      refine r_revP O1 (by wtm_at "sql") ?_
      intro q H4 O4
      wtm_at "gg"
      refine r_newP O4 (by wtm_at "len") ?_
      intro d H5 O5
      wtm_at "gg"
      refine k d _ ⟨q, m, 0, ms.reverse, ⟨h0, h1, by omega, by omega, by rw [List.length_reverse]; omega⟩, ?_⟩
      have O6 := O5.back (I := I) (e.trans e1)
      have O7 : Own I ((d, .lst [.ref q, .int m, .int 0]) :: (q, .lst (ms.reverse.map V.int)) :: (c, .lst (ms.map V.int)) :: ps) H5 := by
        rw [List.map_reverse]
        exact O6
      exact ((O7.perm (perm2 ..).symm).drop)
theorem last_of {α : Type} : ∀ {l : List α}, l ≠ [] → ∃ (init : List α) (z : α), l = init ++ [z]
  | [], h => absurd rfl h
  | [z], _ => ⟨[], z, rfl⟩
  | x :: y :: l, _ => by
    obtain ⟨init, z, e⟩ := last_of (l := y :: l) (by simp)
    exact ⟨x :: init, z, by rw [e]; rfl⟩
theorem ok_draw (T : Txt mg) {f : Addr} {fd : FuncData} (F : Fun K "_law_draw" "_law_draw" st__law_draw f fd) : FnG P w K mg base CX0 1 f fd ["_law_deck_here", "_law_many"] sp_draw := by
  refine okG F sc__law_draw (fun vs H Q E h => ?_) (fun cdv A outer s H vs Q E hgd hr h => ⟨_, (dv__law_draw T hgd hr).2, ?_⟩)
  · obtain ⟨d, n, I, ps, m, rfl, _⟩ := h
    rfl
  · obtain ⟨d, n, I, ps, m, rfl, ⟨c, m0, k0, cells, ⟨g1, g2, g3, g4, g5⟩, O⟩, hn, hm1, hm2, k⟩ := h
    dsimp only [dv__law_draw]
    have es : start ["_law_deck_here", "_law_many", "_law_cell", "_law_number"] [V.ref d, .int m] = [some (V.ref d), some (.int m), none, none] := rfl
    rw [es]
    have O : Sta .own I (dkP d c m0 k0 cells ps) H := O
    have done : ∀ (r : Int) (J : Hp) (cs : List Int) (H2 : Hp), Ex I J → Sta .own J (dkP d c m0 (k0 + 1) cs ps) H2 → cs.length ≤ 64 → 0 ≤ r → r < m → Q (.int r) H2 := fun r J cs H2 e O2 hc h0 h1 =>
      k r H2 h0 h1 ⟨c, m0, k0 + 1, cs, ⟨g1, g2, by omega, by omega, hc⟩, O2.back e⟩
    wtm_at "gg"
    refine r_setL (n := 0) (j := 2) O rfl rfl ?_
    intro H2 O2
    have O2 : Sta .own I (dkP d c m0 (k0 + 1) cells ps) H2 := O2
    wtm_at "gg"
    refine ⟨fun σ H => ∃ (J : Hp) (cs : List Int) (z : Int), Ex I J ∧ σ = [some (V.ref d), some (.int m), some (.int z), none] ∧ Sta .own J (dkP d c m0 (k0 + 1) cs ps) H ∧ cs.length ≤ 64, ?_, ?_⟩
    · wtm_at "gg"
      refine r_newL O2 (by wtm_at "len") ?_
      intro p J H3 O3 e3 hp
      wtm_at "gg"
      refine r_neNilI (ns := cells) (by wtm_at "sql") (by wtm_at "sql") ?_
      wtm_at "gg"
      refine r_ite (fun h => ?_) (fun h => ?_)
      · wtm_at "gg"
        exact ⟨J, cells, m0, e3, rfl, O3, g5⟩
      · obtain ⟨cs, z, rfl⟩ := last_of h
        rw [List.length_append, List.length_singleton] at g5
        have O3 : Sta .own J ((d, .lst [.ref c, .int m0, .int (k0 + 1)]) :: (c, .lst (cs.map V.int ++ [.int z])) :: ps) H3 := by
          have e : (cs ++ [z]).map V.int = cs.map V.int ++ [.int z] := by simp
          rw [← e]
          exact O3
        wtm_at "gg"
        refine r_pop (n := 1) (v := .int z) O3 rfl (by simp) ?_
        intro H4 O4
        have O4 : Sta .own J (dkP d c m0 (k0 + 1) cs ps) H4 := by
          have e : (cs.map V.int ++ [V.int z]).dropLast = cs.map V.int := by simp
          show Sta .own J ((d, .lst [.ref c, .int m0, .int (k0 + 1)]) :: (c, .lst (cs.map V.int)) :: ps) H4
          rw [← e]
          exact O4
        wtm_at "gg"
        refine r_ite (fun h => ?_) (fun h => ?_)
        · wtm_at "gg"
          refine r_app (n := 1) O4 rfl (by rw [List.length_map]; unfold sizeLine; omega) ?_
          intro H5 O5
          have O5 : Sta .own J (dkP d c m0 (k0 + 1) (cs ++ [z / m]) ps) H5 := by
            have e : (cs ++ [z / m]).map V.int = cs.map V.int ++ [.int (z / m)] := by simp
            show Sta .own J ((d, .lst [.ref c, .int m0, .int (k0 + 1)]) :: (c, .lst ((cs ++ [z / m]).map V.int)) :: ps) H5
            rw [e]
            exact O5
          wtm_at "gg"
          exact done _ J _ H5 e3 O5 (by rw [List.length_append, List.length_singleton]; omega) (Int.emod_nonneg _ (by omega)) (Int.emod_lt_of_pos _ (by omega))
        · wtm_at "gg"
          exact ⟨J, cs, _, e3, rfl, O4, by omega⟩
    · rintro σ H4 ⟨J, cs, z, e4, rfl, O4, hc⟩
      wtm_at "gg"
      generalize hx : (z % 2147483629 + 88469 * (k0 + 1) * (k0 + 1) + 23) * 39373 % 2147483647 = x
      have x0 : 0 ≤ x := by rw [← hx]; exact Int.emod_nonneg _ (by decide)
      have x1 : x < 2147483647 := by rw [← hx]; exact Int.emod_lt_of_pos _ (by decide)
      generalize hy : (x * x + 69621 * (k0 + 1) + 5) % 2147483587 = y
      have y0 : 0 ≤ y := by rw [← hy]; exact Int.emod_nonneg _ (by decide)
      have y1 : y < 2147483587 := by rw [← hy]; exact Int.emod_lt_of_pos _ (by decide)
      exact done _ J cs H4 e4 O4 hc (Int.emod_nonneg _ (by omega)) (Int.emod_lt_of_pos _ (by omega))
end
end K09

namespace K09
def sp_pick : Sp := fun vs H Q _ => ∃ (d : Addr) (n : Int) (I : Hp) (ps : PL) (s : Addr) (xs : List V), vs = [.ref d, .ref s] ∧ Sta (.deck d n) I ps H ∧ I s = some (.lst xs) ∧ 0 < xs.length ∧ xs.length ≤ 1000 ∧ n ≤ 1000000000 ∧ ∀ v H2, v ∈ xs → Sta (.deck d (n + 1)) I ps H2 → Q v H2
def sp_order : Sp := fun vs H Q _ => ∃ (d : Addr) (n : Int) (I : Hp) (ps : PL) (st most : Int), vs = [.ref d, .int st, .int most] ∧ Sta (.deck d n) I ps H ∧ n ≤ 900000000 ∧ 1 ≤ st ∧ st ≤ 100 ∧ 0 ≤ most ∧ most ≤ 100 ∧
  ∀ p J H2 (order : List Int), Ex I J → Sta (.deck d (n + 200)) J ps H2 → TupF J p (order.map V.int) → (∀ x ∈ order, 0 ≤ x ∧ x < st) → order.length ≤ most → Q (.ref p) H2
def sp_lwidth : Sp := fun vs H Q _ => ∃ (κ : Kn) (I : Hp) (ps : PL) (o : Addr) (size : Int) (order : List Int) (st r : Int), vs = [.int size, .ref o, .int st, .int r] ∧ Sta κ I ps H ∧ TupF I o (order.map V.int) ∧ TalkOk size order ∧ 0 ≤ r ∧ r ≤ 30 ∧ ∀ H2, Sta κ I ps H2 → Q (.int (widthN size order st r)) H2
section
variable {P : Program} {w : World} {K : PySem.W.Frag} {mg : Str → Option Value} {base : Heap}
theorem ok_pick (T : Txt mg) (c1 : Cg P w K mg base CX0 1 "_law_draw" sp_draw) {f : Addr} {fd : FuncData} (F : Fun K "_law_pick" "_law_pick" st__law_pick f fd) : FnG P w K mg base CX0 2 f fd ["_law_deck_here", "_law_some"] sp_pick := by
  refine okG F sc__law_pick (fun vs H Q E h => ?_) (fun cdv A outer s H vs Q E hgd hr h => ⟨_, (dv__law_pick T c1 hgd hr).2, ?_⟩)
  · obtain ⟨d, n, I, ps, s, xs, rfl, _⟩ := h
    rfl
  · obtain ⟨d, n, I, ps, s, xs, rfl, O, hs, h0, h1, hn, k⟩ := h
    dsimp only [dv__law_pick]
    have es : start ["_law_deck_here", "_law_some"] [V.ref d, .ref s] = [some (V.ref d), some (.ref s)] := rfl
    rw [es]
    wtm_at "gg"
    refine ⟨d, n, I, ps, _, rfl, O, hn, by omega, by omega, fun r H2 r0 r1 O2 => ?_⟩
    obtain ⟨v, hv, hv2⟩ := at_int r0 r1
    refine r_ixL O2 (by wtm_at "sql") hv ?_
    wtm_at "gg"
    exact k v H2 (List.mem_of_getElem? hv2) O2
theorem flat_one (n : Nat) (x : Int) : (List.replicate n [V.int x]).flatten = (List.replicate n x).map V.int := by
  induction n with
  | zero => rfl
  | succ n ih => rw [List.replicate_succ, List.flatten_cons, ih, List.replicate_succ, List.map_cons]; rfl
theorem ok_order (T : Txt mg) (c1 : Cg P w K mg base CX0 1 "_law_draw" sp_draw) {f : Addr} {fd : FuncData} (F : Fun K "_law_order" "_law_order" st__law_order f fd) : FnG P w K mg base CX0 2 f fd ["_law_deck_here", "_law_stations", "_law_most"] sp_order := by
  refine okG F sc__law_order (fun vs H Q E h => ?_) (fun cdv A outer s H vs Q E hgd hr h => ⟨_, (dv__law_order T c1 hgd hr).2, ?_⟩)
  · obtain ⟨d, n, I, ps, st, most, rfl, _⟩ := h
    rfl
  · obtain ⟨d, n, I, ps, st, most, rfl, O, hn, h0, h1, h2, h3, k⟩ := h
    dsimp only [dv__law_order]
    have es : start ["_law_deck_here", "_law_stations", "_law_most", "_law_way", "_law_many", "_law_first", "_law_k"] [V.ref d, .int st, .int most] = [some (V.ref d), some (.int st), some (.int most), none, none, none, none] := rfl
    rw [es]
    wtm_at "gg"
    refine ⟨d, n, I, ps, _, rfl, O, by omega, by omega, by omega, fun way H2 w0 w1 O2 => ?_⟩
    wtm_at "gg"
    refine ⟨d, _, I, ps, _, rfl, O2, by omega, by omega, by omega, fun many H3 m0 m1 O3 => ?_⟩
    wtm_at "gg"
    refine ⟨d, _, I, ps, _, rfl, O3, by omega, by omega, by omega, fun fst H4 f0 f1 O4 => ?_⟩
    wtm_at "gg"
    rename_i tp J H5 O5 e5 htp
    refine r_ite (fun h => ?_) (fun h => ?_)
    · wtm_at "gg"
      rename_i q J2 H6 O6 e6 hq
      refine r_repF O6 hq (by simp) (by omega) (by omega) (by simp) ?_
      intro q2 J3 H7 O7 e7 hq2
      wtm_at "gg"
      rw [flat_one] at hq2
      refine k q2 J3 H7 _ (by wtm_at "ex") (O7.up (by omega)) hq2 (fun x hx => ?_) (by rw [List.length_replicate]; omega)
      rw [(List.mem_replicate.mp hx).2]
      exact ⟨f0, f1⟩
    · wtm_at "gg"
      refine r_ite (fun h' => ?_) (fun h' => ?_)
      · wtm_at "gg"
        refine comp_rng0 (fun _ => .deck d (n + 1 + 1 + 1)) (fun i J2 ps2 acc => ps2 = ps ∧ ∃ os : List Int, acc = os.map V.int ∧ (∀ x ∈ os, 0 ≤ x ∧ x < st) ∧ os.length = i) (by assumption) ⟨rfl, [], rfl, fun _ hx => absurd hx List.not_mem_nil, rfl⟩ ?_ ?_
        · rintro Dl i J2 ps2 acc H6 hi e6 O6 ⟨rfl, os, rfl, ho, hl⟩
          wtm_at "gg"
          refine r_cadd e6 O6 (by rw [List.length_map]; unfold sizeLine; omega) ⟨rfl, os ++ [(fst + (i : Int) / way) % st], by simp, ?_, by simp [hl]⟩
          intro x hx
          rcases List.mem_append.mp hx with hx | hx
          · exact ho x hx
          · rw [List.mem_singleton.mp hx]
            exact ⟨Int.emod_nonneg _ (by omega), Int.emod_lt_of_pos _ (by omega)⟩
        · rintro p J2 ps2 acc H6 e6 O6 ⟨rfl, os, rfl, ho, hl⟩
          wtm_at "gg"
          refine r_tupL O6 (by wtm_at "sql") ?_
          intro p2 J3 H7 O7 e7 hp2
          wtm_at "gg"
          exact k p2 J3 H7 os (by wtm_at "ex") (O7.drop.up (by omega)) hp2 ho (by omega)
      · wtm_at "gg"
        refine comp_rng0 (fun i => .deck d (n + 1 + 1 + 1 + (i : Nat))) (fun i J2 ps2 acc => ps2 = ps ∧ ∃ os : List Int, acc = os.map V.int ∧ (∀ x ∈ os, 0 ≤ x ∧ x < st) ∧ os.length = i) (O5.up (by omega)) ⟨rfl, [], rfl, fun _ hx => absurd hx List.not_mem_nil, rfl⟩ ?_ ?_
        · rintro Dl i J2 ps2 acc H6 hi e6 O6 ⟨rfl, os, rfl, ho, hl⟩
          wtm_at "gg"
          refine ⟨d, _, J2, _, _, rfl, O6, by omega, by omega, by omega, fun r H7 r0 r1 O7 => ?_⟩
          refine r_cadd e6 (O7.up (by omega)) (by rw [List.length_map]; unfold sizeLine; omega) ⟨rfl, os ++ [r], by simp, ?_, by simp [hl]⟩
          intro x hx
          rcases List.mem_append.mp hx with hx | hx
          · exact ho x hx
          · rw [List.mem_singleton.mp hx]
            exact ⟨r0, r1⟩
        · rintro p J2 ps2 acc H6 e6 O6 ⟨rfl, os, rfl, ho, hl⟩
          wtm_at "gg"
          refine r_tupL O6 (by wtm_at "sql") ?_
          intro p2 J3 H7 O7 e7 hp2
          wtm_at "gg"
          exact k p2 J3 H7 os (by wtm_at "ex") (O7.drop.up (by omega)) hp2 ho (by omega)
end
end K09

namespace K09
theorem zipW_get {f : Int → Int → Int} {xs ys : List Int} {i : Nat} {x y : Int} (h1 : xs[i]? = some x) (h2 : ys[i]? = some y) : (xs.zipWith f ys)[i]? = some (f x y) := by
  rw [List.getElem?_zipWith, h1, h2]
theorem take_one {xs : List Int} {i : Nat} {x : Int} (h : xs[i]? = some x) : xs.take (i + 1) = xs.take i ++ [x] := by
  rw [List.take_succ, h]
  rfl
theorem fz {κ : Kn} {I H : Hp} {ps : PL} {p : Addr} {o : HO} (O : Sta κ I ((p, o) :: ps) H) : ∃ J, Sta κ J ps H ∧ Ex I J ∧ J p = some o := ⟨_, O.freeze, O.exf, upd_same⟩
section
variable {P : Program} {w : World} {K : PySem.W.Frag} {mg : Str → Option Value} {base : Heap}
theorem ok_lwidth (T : Txt mg) {f : Addr} {fd : FuncData} (F : Fun K "_law_width" "_law_width" st__law_width f fd) : FnG P w K mg base CX0 1 f fd ["_law_size", "_law_order_here", "_law_who", "_law_span"] sp_lwidth := by
  refine okG F sc__law_width (fun vs H Q E h => ?_) (fun cdv A outer s H vs Q E hgd hr h => ⟨_, (dv__law_width T hgd hr).2, ?_⟩)
  · obtain ⟨κ, I, ps, o, size, order, st, r, rfl, _⟩ := h
    rfl
  · obtain ⟨κ, I, ps, o, size, order, st, r, rfl, O, ho, hk, h0, h1, k⟩ := h
    obtain ⟨k0, k1, k2⟩ := hk
    dsimp only [dv__law_width]
    have es : start ["_law_size", "_law_order_here", "_law_who", "_law_span", "_law_k", "_law_ends", "_law_longest", "_law_base", "_law_speaker", "_law_start", "_law_end"] [V.int size, .ref o, .int st, .int r] = [some (V.int size), some (.ref o), some (.int st), some (.int r), none, none, none, none, none, none, none] := rfl
    rw [es]
    wtm_at "gg"
    refine comp_enumT (fun _ => κ) (fun i J ps1 acc => ps1 = ps ∧ ∃ ends, acc = ends.map V.int ∧ ends.length ≤ i ∧ endsOf st order 0 = ends ++ endsOf st (order.drop i) i) (by assumption) (by wtm_at "sqt") ⟨rfl, [], rfl, Nat.le_refl _, rfl⟩ ?_ ?_
    · rintro Dl i x J ps1 acc H1 hi e O1 ⟨rfl, ends, rfl, hle, he⟩
      obtain ⟨n, hn, rfl⟩ := map_at hi
      obtain ⟨hl, hn'⟩ := List.getElem?_eq_some_iff.mp hn
      rw [List.drop_eq_getElem_cons hl, hn', endsOf] at he
      wtm_at "gg"
      refine r_ite (fun h => ?_) (fun h => ?_)
      · rw [if_pos h] at he
        wtm_at "gg"
        refine r_cadd e O1 (by rw [List.length_map]; unfold sizeLine; omega) ⟨rfl, ends ++ [(i : Int) + 1], by simp, by simp only [List.length_append, List.length_cons, List.length_nil]; omega, ?_⟩
        rw [he, List.append_assoc]
        rfl
      · rw [if_neg h] at he
        wtm_at "gg"
        exact r_cnone e O1 ⟨rfl, ends, rfl, by omega, he⟩
    · rintro p J0 ps1 acc H1 e O0 ⟨rfl, ends, rfl, hle, he⟩
      obtain ⟨J, O1, e1, hp⟩ := fz O0
      rw [List.length_map] at hle he
      rw [List.drop_eq_nil_of_le (Nat.le_refl _)] at he
      have he : endsOf st order 0 = ends := by rw [he, endsOf, List.append_nil]
      have hel : ends.length = order.count st := by rw [← he]; exact ends_len st order 0
      have hdz0 := difs_zip st order 0 (-1)
      rw [he] at hdz0
      have hdz : ((0 : Int) :: ends).zipWith (fun a b => b - a) ends = difs st order 0 (-1) := hdz0
      wtm_at "gg"
      refine r_newL O1 (by wtm_at "len") ?_
      intro q J2 H2 O2 e2 hq
      refine r_eqNilI (ns := ends) (by wtm_at "sql") (by wtm_at "sql") ?_
      wtm_at "gg"
      refine r_ite (fun h => ?_) (fun h => ?_)
      · wtm_at "gg"
        rw [h] at hel
        have hw : widthN size order st r = 1 := by
          unfold widthN
          rw [if_pos (by rw [← hel]; rfl)]
        rw [hw] at k
        exact k _ (O2.back (by wtm_at "ex"))
      · wtm_at "gg"
        have hne : 0 < ends.length := List.length_pos_iff.mpr h
        refine r_newL O2 (by wtm_at "len") ?_
        intro z J3 H3 O3 e3 hz
        refine r_var (by with_unfolding_all rfl) ?_
        refine r_addLp O3 (O3.ex _ _ hz) (O2.ex _ _ (e2 _ _ hp) |> fun h => (O3.ex _ _ (e3 _ _ (e2 _ _ hp)))) (by simp only [List.length_map, List.length_cons, List.length_nil]; unfold sizeLine; omega) ?_
        intro zp J4 H4 O4 e4 hzp
        have hzp : J4 zp = some (.lst (((0 : Int) :: ends).map V.int)) := hzp
        refine r_var (by with_unfolding_all rfl) ?_
        refine r_zipLL (xs := ((0 : Int) :: ends).map V.int) (ys := ends.map V.int) (by wtm_at "sql") (by wtm_at "sql") ?_
        refine comp_zipL (fun _ => κ) (fun i J ps2 acc => ps2 = ps1 ∧ acc = ((((0 : Int) :: ends).zipWith (fun a b => b - a) ends).take i).map V.int) (by assumption) (SqL.of (by wtm_at "at")) (SqL.of (by wtm_at "at")) ⟨rfl, rfl⟩ ?_ ?_
        · rintro Dl i x y J5 ps2 acc H5 hx hy e5 O5 ⟨rfl, rfl⟩
          obtain ⟨n, hn, rfl⟩ := map_at hx
          obtain ⟨m, hm, rfl⟩ := map_at hy
          wtm_at "gg"
          have hi := (List.getElem?_eq_some_iff.mp hm).1
          refine r_cadd e5 O5 (by rw [List.length_map, List.length_take]; unfold sizeLine; omega) ⟨rfl, ?_⟩
          rw [take_one (zipW_get hn hm), List.map_append]
          rfl
        · rintro q5 J5 ps2 acc H5 e5 O5 ⟨rfl, rfl⟩
          rw [List.take_of_length_le (by simp only [List.length_zipWith, List.length_map]; exact Nat.le_refl _), hdz] at O5
          have hdl : 0 < (difs st order 0 (-1)).length := by rw [← hdz, List.length_zipWith, List.length_cons]; omega
          wtm_at "gg"
          refine r_maxL (by wtm_at "sql") hdl ?_
          intro m hm hmx
          have hg := gap_is hm hmx
          obtain ⟨g0, g1⟩ := gapOf_bound order st
          wtm_at "gg"
          refine loop_rng0 (fun _ => κ) (fun i σ J6 ps3 => ps3 = ps2 ∧ ∃ v, σ = [some (V.int size), some (.ref o), some (.int st), some (.int r), v, some (V.ref p), some (.int m), some (.int (powN size i)), none, none, none]) (O5.drop) ⟨rfl, _, rfl⟩ ?_ ?_
          · rintro i σ J6 ps3 H6 hi e6 O6 ⟨rfl, v, rfl⟩
            obtain ⟨p0, p1⟩ := powN_bound k0 k1 i (by omega)
            have p2 := pow9 i (by omega)
            wtm_at "gg"
            exact r_linv e6 O6 ⟨rfl, _, rfl⟩
          · rintro σ J6 ps3 H6 e6 O6 ⟨rfl, v, rfl⟩
            obtain ⟨p0, p1⟩ := powN_bound k0 k1 m.toNat (by omega)
            have p2 := pow9 m.toNat (by omega)
            wtm_at "gg"
            have hs6 : SqL K H6 p (ends.map V.int) := O6.sL (SqL.of (by wtm_at "at"))
            have e7 : Ex I J6 := (((((e.trans e1).trans e2).trans e3).trans e4).trans e5).trans e6
            have O7 := O6.back e7
            refine ⟨fun v H => v = .int (if (order.count st : Int) = 1 then 1 else r) ∧ Sta κ I ps3 H, ?_, ?_⟩
            · wtm_at "gg"
              refine r_ite (fun h => ?_) (fun h => ?_) <;> wtm_at "gg" <;> rw [List.length_map] at h
              · exact ⟨by rw [if_neg (by omega)], O7⟩
              · exact ⟨by rw [if_pos (by omega)], O7⟩
            · rintro v H3 ⟨rfl, O3⟩
              have hi : 0 ≤ (if (order.count st : Int) = 1 then 1 else r) ∧ (if (order.count st : Int) = 1 then 1 else r) ≤ 30 := by split <;> omega
              refine r_mulI (.inr (by omega)) ?_
              refine r_addI ?_
              have hw : widthN size order st r = 1 + powN size m.toNat * (if (order.count st : Int) = 1 then 1 else r) := by
                unfold widthN
                rw [if_neg (by omega), hg]
              rw [hw] at k
              exact k _ O3
end
end K09

namespace K09
def sp_law (K : PySem.W.Frag) : Sp := fun vs H Q _ => ∃ (I : Hp) (a : Addr) (ns : List Int), vs = [.ref a] ∧ Sta .own I [] H ∧ SqL K I a (ns.map V.int) ∧ ns.length ≤ 63 ∧ ∀ H2, Q (.bl true) H2
def sk_width (K : PySem.W.Frag) : Sp := fun vs H Q E => ∃ r s t : V, vs = [r, s, t] ∧ sp_width K [t, s, r] H Q E
theorem dpAll_rep {K : PySem.W.Frag} {I : Hp} {v : V} {d : PyData} (h : Dp K I v d) : ∀ n : Nat, DpAll K I (List.replicate n v) (List.replicate n d)
  | 0 => DpAll.nil
  | n + 1 => DpAll.cons h (dpAll_rep h n)
theorem flat_ref (n : Nat) (x : V) : (List.replicate n [x]).flatten = List.replicate n x := by
  induction n with
  | zero => rfl
  | succ n ih => rw [List.replicate_succ, List.flatten_cons, ih, List.replicate_succ]; rfl
/-! the data -/
def dA (r : Int) : PyData := .tuple [.tuple [], .tuple [], .int r]
def dB : PyData := .tuple [.tuple [.tuple [.str "set", .int 0, .tuple [.str "letter"]]], .tuple [], .tuple [.str "register", .int 0]]
def dPlan (size : Int) (q : PyData) (n : Nat) (order : List Int) : PyData := .tuple [.int size, .tuple (List.replicate n q), .tuple (order.map .int)]
theorem good_str {k : Nat} {x : Str} (h1 : PyData.strOk x = true) (h2 : ∀ c ∈ x.cps.toList, c < 16 ^ 8) : good k (.str x) := by cases k <;> exact ⟨h1, h2⟩
theorem good_dA {r : Int} (h0 : 0 ≤ r) (h1 : r < 10) : good 7 (dA r) := good_tup (goods_cons (good_tup goods_nil) (goods_cons (good_tup goods_nil) (goods_cons (good_int (by omega) (by omega)) goods_nil)))
theorem good_dB : good 7 dB := good_tup (goods_cons (good_tup (goods_cons (good_tup (goods_cons (good_str (by decide +kernel) (by decide +kernel)) (goods_cons (good_int (by decide) (by decide)) (goods_cons (good_tup (goods_cons (good_str (by decide +kernel) (by decide +kernel)) goods_nil)) goods_nil)))) goods_nil))
  (goods_cons (good_tup goods_nil) (goods_cons (good_tup (goods_cons (good_str (by decide +kernel) (by decide +kernel)) (goods_cons (good_int (by decide) (by decide)) goods_nil))) goods_nil)))
theorem good_plan {size st : Int} {q : PyData} {n : Nat} {order : List Int} (hk : TalkOk size order) (ho : ∀ x ∈ order, 0 ≤ x ∧ x < st) (hs : st ≤ 100) (hq : good 7 q) : good 9 (dPlan size q n order) := by
  obtain ⟨k0, k1, k2⟩ := hk
  exact good_tup (goods_cons (good_int (by omega) (by omega)) (goods_cons (good_tup (goods_rep hq)) (goods_cons (good_tup (goods_ints fun x hx => by have := ho x hx; omega)) goods_nil)))
theorem nz_dA (r : Int) : nz (dA r) ≤ 6000 := by unfold dA; simp only [nz, nzAll]; decide
theorem nz_dB : nz dB ≤ 6000 := by unfold dB; simp only [nz, nzAll]; decide +kernel
theorem nz_plan {size : Int} {q : PyData} {n : Nat} {order : List Int} (hn : n ≤ 4) (ho : order.length ≤ 8) (hq : nz q ≤ 6000) : nz (dPlan size q n order) ≤ 1000000 := by
  have h1 : nzAll (List.replicate n q) ≤ (List.replicate n q).length * (6000 + 2) := nzAll_le fun x hx => by rw [(List.mem_replicate.mp hx).2]; exact hq
  have h2 : nzAll (order.map PyData.int) ≤ (order.map PyData.int).length * (1921 + 2) := nzAll_le fun x hx => by
    obtain ⟨y, _, rfl⟩ := List.mem_map.mp hx
    simp only [nz]
    decide
  rw [List.length_replicate] at h1
  rw [List.length_map] at h2
  unfold dPlan
  simp only [nz, nzAll]
  omega
theorem widthN_bound {size r : Int} {order : List Int} (hk : TalkOk size order) (st : Int) (h0 : 0 ≤ r) (h1 : r ≤ 30) : 0 ≤ widthN size order st r ∧ widthN size order st r ≤ 10000000000 := by
  obtain ⟨k0, k1, k2⟩ := hk
  obtain ⟨g0, g1⟩ := gapOf_bound order st
  obtain ⟨p0, p1⟩ := powN_bound k0 k1 (gapOf order st).toNat (by omega)
  have p2 := pow9 (gapOf order st).toNat (by omega)
  unfold widthN
  split
  · omega
  · split
    · omega
    · have a := Int.mul_nonneg p0 h0
      have b := Int.mul_le_mul (Int.le_trans p1 p2) h1 h0 (by decide)
      omega
section
variable {P : Program} {w : World} {K : PySem.W.Frag} {mg : Str → Option Value} {base : Heap}
/-- a turn's tail: the speakers, one by one, and what was kept -/
theorem law_tail {d a p6 p15 po : Addr} {n n2 size i st span : Int} {J H : Hp} {q1 q2 : V} {e1 e2 : PyData} {m : Nat} {order : List Int} {v9 v10 v11 v12 : Option V} {D : Ends} (O : Sta (.deck d n) J [] H) (hn : n ≤ n2)
    (hst : 0 ≤ st) (hst4 : st ≤ 4) (hm : m ≤ 4) (hk : TalkOk size order) (hor : ∀ x ∈ order, 0 ≤ x ∧ x < st) (s0 : 0 ≤ span) (s1 : span ≤ 30)
    (t6 : SqT K J p6 [.int size, q1, .ref po]) (t15 : SqT K J p15 [.int size, q2, .ref po]) (hpo : TupF J po (order.map V.int))
    (h1 : Dp K J (.ref p6) (dPlan size e1 m order)) (h2 : Dp K J (.ref p15) (dPlan size e2 m order)) (g1 : good 7 e1) (g2 : good 7 e2) (z1 : nz e1 ≤ 6000) (z2 : nz e2 ≤ 6000)
    (k : ∀ x9 x10 x11 x12 J2 H2, Ex J J2 → Sta (.deck d n2) J2 [] H2 → D.nx [some (V.ref a), some (.ref d), some (.int i), some (.int size), some (.int st), some (.ref po), some (.int span), some (.ref p6), some (.ref p15), x9, x10, x11, x12] H2) :
    tSeq (tAsg (tCB (rRepr K) (tCons (tTupF (tCons (tVar 7) (tCons (tVar 8) tNil))) tNil)) (gName 9)) (tSeq (tFor (iRng1 (tCons (tVar 4) tNil)) (gName 10)
      (tSeq (tAsg (tCall sp_lwidth [] E0 (tCons (tVar 3) (tCons (tVar 5) (tCons (tVar 10) (tCons (tVar 6) tNil))))) (gName 11))
        (tSeq (tAsg (tLst (tCons (tCall (sp_width K) [] E0 (tCons (tVar 7) (tCons (tVar 10) (tCons (tVar 6) tNil)))) (tCons (tCall (sk_width K) [] E0 (tCons (tVar 6) (tCons (tVar 10) (tCons (tVar 8) tNil)))) tNil))) (gName 12))
          (tIfS (tTest (tOp (rNeA K) (tCB (rRepr K) (tCons (tVar 12) tNil)) (tCB (rRepr K) (tCons (tLst (tCons (tVar 11) (tCons (tVar 11) tNil))) tNil)))) (tRet (tC (V.bl false))) tNext))))
      (tIfS (tTest (tOp (rNeA K) (tCB (rRepr K) (tCons (tTupF (tCons (tVar 7) (tCons (tVar 8) tNil))) tNil)) (tVar 9))) (tRet (tC (V.bl false))) tNext)) D
      [some (V.ref a), some (.ref d), some (.int i), some (.int size), some (.int st), some (.ref po), some (.int span), some (.ref p6), some (.ref p15), v9, v10, v11, v12] H := by
  have hg : good 10 (.tuple [dPlan size e1 m order, dPlan size e2 m order]) := good_tup (goods_cons (good_plan hk hor (by omega) g1) (goods_cons (good_plan hk hor (by omega) g2) goods_nil))
  have hz : nz (.tuple [dPlan size e1 m order, dPlan size e2 m order]) ≤ 16000000 := by
    have z1 := nz_plan (size := size) hm hk.2.2 z1
    have z2 := nz_plan (size := size) hm hk.2.2 z2
    simp only [nz, nzAll]
    omega
  wtm_at "gg"
  rename_i p16 J18 H26 O26 e18 hpair
  refine r_reprG (k := 10) O26 (Dp.tup (TupF.sq hpair) (.cons (Dp.up e18 h1) (.cons (Dp.up e18 h2) .nil))) hg (by decide) hz ?_
  generalize hs : PyData.shown (.tuple [dPlan size e1 m order, dPlan size e2 m order]) = sx
  wtm_at "gg"
  refine loop_rng0 (fun _ => .deck d n) (fun j σ J' ps2 => ps2 = [] ∧ ∃ x10 x11 x12, σ = [some (V.ref a), some (.ref d), some (.int i), some (.int size), some (.int st), some (.ref po), some (.int span), some (.ref p6), some (.ref p15), some (.str sx), x10, x11, x12]) (by assumption) ⟨rfl, _, _, _, rfl⟩ ?_ ?_
  · rintro j σ J19 ps2 H27 hj e19 O27 ⟨rfl, x10, x11, x12, rfl⟩
    obtain ⟨w0, w1⟩ := widthN_bound hk (j : Int) s0 s1
    obtain ⟨sy, hy⟩ : ∃ sy, PyData.shown (.list [.int (widthN size order (j : Int) span), .int (widthN size order (j : Int) span)]) = sy := ⟨_, rfl⟩
    have ee : Ex J J19 := e18.trans e19
    wtm_at "gg"
    refine ⟨_, J19, _, po, _, order, _, span, rfl, O27, TupF.up ee hpo, hk, s0, s1, fun H28 O28 => ?_⟩
    wtm_at "gg"
    refine ⟨_, J19, _, p6, size, order, _, span, rfl, O28, ⟨_, po, SqT.up ee t6, TupF.up ee hpo⟩, hk, s0, s1, fun H29 O29 => ?_⟩
    wtm_at "gg"
    refine ⟨_, _, _, rfl, _, J19, _, p15, size, order, _, span, rfl, O29, ⟨_, po, SqT.up ee t15, TupF.up ee hpo⟩, hk, s0, s1, fun H30 O30 => ?_⟩
    refine r_newL O30 (by wtm_at "len") ?_
    intro tl J20 H31 O31 e20 htl
    wtm_at "gg"
    refine r_reprG (k := 3) O31 (Dp.lst (SqL.of htl) (.cons (.int _) (.cons (.int _) .nil))) (good_lst (goods_cons (good_int (by omega) (by omega)) (goods_cons (good_int (by omega) (by omega)) goods_nil))) (by decide) (by simp only [nz, nzAll]; decide) ?_
    rw [hy]
    wtm_at "gg"
    refine r_newL O31 (by wtm_at "len") ?_
    intro t2 J21 H32 O32 e21 ht2
    refine r_reprG (k := 3) O32 (Dp.lst (SqL.of ht2) (.cons (.int _) (.cons (.int _) .nil))) (good_lst (goods_cons (good_int (by omega) (by omega)) (goods_cons (good_int (by omega) (by omega)) goods_nil))) (by decide) (by simp only [nz, nzAll]; decide) ?_
    rw [hy]
    refine r_neStr rfl ?_
    wtm_at "gg"
    exact r_linv ((e19.trans e20).trans e21) O32 ⟨rfl, _, _, _, rfl⟩
  · rintro σ J19 ps2 H27 e19 O27 ⟨rfl, x10, x11, x12, rfl⟩
    have ee : Ex J J19 := e18.trans e19
    wtm_at "gg"
    rename_i p17 J21 H32 O32 e21 hp17
    refine r_reprG (k := 10) O32 (Dp.tup (TupF.sq hp17) (.cons (Dp.up (ee.trans e21) h1) (.cons (Dp.up (ee.trans e21) h2) .nil))) hg (by decide) hz ?_
    rw [hs]
    wtm_at "gg"
    refine r_neStr rfl ?_
    refine ⟨false, rfl, ?_⟩
    rw [if_neg Bool.false_ne_true]
    exact k _ _ _ _ _ _ (ee.trans e21) (O32.up hn)
end
end K09

namespace K09
section
variable {P : Program} {w : World} {K : PySem.W.Frag} {mg : Str → Option Value} {base : Heap}
theorem ok_law (T : Txt mg) (c1 : Cg P w K mg base CX0 1 "_law_deck" (sp_deck K)) (c2 : Cg P w K mg base CX0 1 "_law_draw" sp_draw) (c3 : Cg P w K mg base CX0 2 "_law_order" sp_order) (c4 : Cg P w K mg base CX0 2 "_law_pick" sp_pick) (c5 : Cg P w K mg base CX0 1 "_law_width" sp_lwidth)
    (c6 : Cg P w K mg base CX0 3 "width" (sp_width K)) (c7 : Cgk P w K mg base CX0 3 "width" ["rounds", "station", "talk"] (sk_width K)) {f : Addr} {fd : FuncData} (F : Fun K "law" "law" st_law f fd) : FnG P w K mg base CX0 4 f fd ["_law_script"] (sp_law K) := by
  refine okG F sc_law (fun vs H Q E h => ?_) (fun cdv A outer s H vs Q E hgd hr h => ⟨_, (dv_law T c1 c2 c3 c4 c5 c6 c7 hgd hr).2, ?_⟩)
  · obtain ⟨I, a, ns, rfl, _⟩ := h
    rfl
  · obtain ⟨I, a, ns, rfl, O, ha, hl, k⟩ := h
    dsimp only [dv_law]
    have es : start ["_law_script", "_law_deck_here", "_law_turn", "_law_size", "_law_stations", "_law_order_here", "_law_span", "_law_plan", "_law_other", "_law_kept", "_law_who", "_law_due", "_law_told"] [V.ref a] = [some (V.ref a), none, none, none, none, none, none, none, none, none, none, none, none] := rfl
    rw [es]
    wtm_at "gg"
    refine ⟨I, [], a, ns, rfl, O, ha, hl, fun d H2 O2 => ?_⟩
    wtm_at "gg"
    refine loop_rng0 (fun i => .deck d (400 * (i : Int))) (fun i σ J ps1 => ps1 = [] ∧ ∃ v2 v3 v4 v5 v6 v7 v8 v9 v10 v11 v12, σ = [some (V.ref a), some (.ref d), v2, v3, v4, v5, v6, v7, v8, v9, v10, v11, v12]) (by assumption) ⟨rfl, _, _, _, _, _, _, _, _, _, _, _, rfl⟩ ?_ ?_
    · rintro i σ J ps1 H3 hi e O3 ⟨rfl, v2, v3, v4, v5, v6, v7, v8, v9, v10, v11, v12, rfl⟩
      wtm_at "gg"
      refine ⟨d, _, J, _, _, rfl, O3, by omega, by omega, by omega, fun r1 H4 a0 a1 O4 => ?_⟩
      wtm_at "gg"
      refine ⟨d, _, J, _, _, rfl, O4, by omega, by omega, by omega, fun r2 H5 b0 b1 O5 => ?_⟩
      wtm_at "gg"
      refine ⟨d, _, J, _, _, _, rfl, O5, by omega, by omega, by omega, by omega, by omega, fun po J1 H6 order e1 O6 hpo hor hol => ?_⟩
      wtm_at "gg"
      refine ⟨d, _, J1, _, _, rfl, O6, by omega, by omega, by omega, fun r3 H7 d0 d1 O7 => ?_⟩
      refine r_newL O7 (by wtm_at "len") ?_
      intro pl J2 H8 O8 e2 hpl
      refine ⟨d, _, J2, _, pl, _, rfl, O8, hpl, by simp, by simp, by omega, fun sv H9 hsv O9 => ?_⟩
      obtain ⟨span, s0, s1, rfl⟩ : ∃ span : Int, 0 ≤ span ∧ span ≤ 30 ∧ sv = .int span := by
        rcases List.mem_cons.mp hsv with h | hsv
        · exact ⟨_, by omega, by omega, h⟩
        rcases List.mem_cons.mp hsv with h | hsv
        · exact ⟨_, by omega, by omega, h⟩
        rcases List.mem_cons.mp hsv with h | hsv
        · exact ⟨_, by omega, by omega, h⟩
        rcases List.mem_cons.mp hsv with h | hsv
        · exact ⟨_, by omega, by omega, h⟩
        exact ⟨r3, d0, by omega, List.mem_singleton.mp hsv⟩
      wtm_at "gg"
      rename_i p1 J3 H10 O10 e3 hp1 p2 J4 H11 O11 e4 hp2
      refine ⟨d, _, J4, _, _, rfl, O11, by omega, by omega, by omega, fun r4 H12 f0 f1 O12 => ?_⟩
      wtm_at "gg"
      rename_i p3 J5 H13 O13 e5 hp3 p4 J6 H14 O14 e6 hp4
      refine r_repF O14 hp4 (by simp) (by omega) (by omega) (by simp) ?_
      rw [flat_ref]
      intro p5 J7 H15 O15 e7 hp5
      wtm_at "gg"
      rename_i p6 J8 H16 O16 e8 hpp p7 J9 H17 O17 e9 q1 p8 J10 H18 O18 e10 q2 p9 J11 H19 O19 e11 q3 p10 J12 H20 O20 e12 q4 p11 J13 H21 O21 e13 q5 p12 J14 H22 O22 e14 q6 p13 J15 H23 O23 e15 q7
      have hk : TalkOk (2 + r1) order := ⟨by omega, by omega, by omega⟩
      refine r_repF O23 q7 (by simp) (by omega) (by omega) (by simp) ?_
      rw [flat_ref]
      intro p14 J16 H24 O24 e16 hp14
      refine r_var (by with_unfolding_all rfl) ?_
      refine r_newT O24 (by wtm_at "len") ?_
      intro p15 J17 H25 O25 e17 hoo
      refine r_gname (by wtm_at "set") ?_
      have ha3 : Dp K J5 (.ref p3) (dA r4) := Dp.tup (xs := [V.ref p1, .ref p2, .int r4]) (TupF.sq hp3) (.cons (Dp.tup (SqT.up e5 (SqT.up e4 (TupF.sq hp1))) .nil) (.cons (Dp.tup (SqT.up e5 (TupF.sq hp2)) .nil) (.cons (.int _) .nil)))
      have hb3 : Dp K J14 (.ref p12) dB := Dp.tup (xs := [V.ref p9, .ref p10, .ref p11]) (by wtm_at "sqt") (by wtm_at "dps")
      have x1 : Ex J5 J17 := by wtm_at "ex"
      have x2 : Ex J14 J17 := (e15.trans e16).trans e17
      have x3 : Ex J1 J17 := (((e2.trans e3).trans e4).trans e5).trans x1
      have x7 : Ex J7 J17 := ((((((((e8.trans e9).trans e10).trans e11).trans e12).trans e13).trans e14).trans e15).trans e16).trans e17
      have x8 : Ex J8 J17 := (((((((((e9).trans e10).trans e11).trans e12).trans e13).trans e14).trans e15).trans e16).trans e17)
      have t5 : SqT K J17 p5 (List.replicate (2 + r2).toNat (V.ref p3)) := SqT.up x7 (TupF.sq hp5)
      have t14 : SqT K J17 p14 (List.replicate (2 + r2).toNat (V.ref p12)) := SqT.up e17 (TupF.sq hp14)
      have tpo : TupF J17 po (order.map V.int) := TupF.up x3 hpo
      have t6 : SqT K J17 p6 [V.int (2 + r1), .ref p5, .ref po] := SqT.up x8 (TupF.sq hpp)
      refine law_tail (n := _) (n2 := 400 * (i : Int) + 400) O25 (by omega) (by omega) (by omega) (m := (2 + r2).toNat) (order := order) (by omega) hk hor s0 s1 t6 (TupF.sq hoo) tpo
        (Dp.tup t6 (.cons (.int _) (.cons (Dp.tup t5 (dpAll_rep (Dp.up x1 ha3) _)) (.cons (Dp.tup tpo.sq (dpAll_ints _)) .nil)))) (Dp.tup (TupF.sq hoo) (.cons (.int _) (.cons (Dp.tup t14 (dpAll_rep (Dp.up x2 hb3) _)) (.cons (Dp.tup tpo.sq (dpAll_ints _)) .nil)))) (good_dA f0 f1) good_dB (nz_dA r4) nz_dB ?_
      intro x9 x10 x11 x12 J2' H2' ex O2'
      have O3' : Sta (.deck d (400 * ((i + 1 : Nat) : Int))) J2' [] H2' := O2'.up (by omega)
      have ee := ((e.trans e1).trans x3).trans ex
      first
        | exact r_linv ee O3' ⟨rfl, _, _, _, _, _, _, _, _, _, _, _, rfl⟩
        | (dsimp only; exact r_linv ee O3' ⟨rfl, _, _, _, _, _, _, _, _, _, _, _, rfl⟩)
        | exact ⟨J2', [], ee, O3', ⟨rfl, _, _, _, _, _, _, _, _, _, _, _, rfl⟩⟩
        | (dsimp only; exact ⟨J2', [], ee, O3', ⟨rfl, _, _, _, _, _, _, _, _, _, _, _, rfl⟩⟩)
    · rintro σ J ps1 H3 e O3 ⟨rfl, v2, v3, v4, v5, v6, v7, v8, v9, v10, v11, v12, rfl⟩
      wtm_at "gg"
      exact k _
end
end K09

namespace K09
def rev3 {α : Type} : List α → List α
  | [r, s, t] => [t, s, r]
  | _ => []
theorem ck_width {P : Program} {w : World} {K : PySem.W.Frag} {mg : Str → Option Value} {base : Heap} {f : Addr} {fd : FuncData} (g : FnG P w K mg base CX0 3 f fd ["talk", "station", "rounds"] (sp_width K)) (hm : mg "width" = some (.ref f)) (kp : PySem.W.keepIn K (.ref f) = true)
    (to : ∀ (s : Shared) (ws : List Value), K.In s.heap → ws.length = 3 → BindsTo s fd ⟨[], (["rounds", "station", "talk"] : List Str).zip ws⟩ ((["talk", "station", "rounds"] : List Str).zip (rev3 ws))) : Cgk P w K mg base CX0 3 "width" ["rounds", "station", "talk"] (sk_width K) := by
  refine ⟨⟨f, fd, _, rev3, rev3, _, g, hm, kp, to, fun zs ws hl hv => ?_, fun zs H Q E h => ?_⟩⟩
  · match zs, ws, hl, hv with
    | [_, _, _], [_, _, _], _, .cons a (.cons b (.cons c .nil)) => exact .cons c (.cons b (.cons a .nil))
  · obtain ⟨r, s, t, rfl, h⟩ := h
    exact ⟨rfl, h⟩
end K09
namespace K09
theorem all_mk {l : PySem.W.OpenLaw} {w : World} {K : PySem.W.Frag} {h : Heap} {mg : Str → Option Value} {fa f1 f2 f3 f4 f5 f6 f7 f8 f9 f10 : Addr} (X : K.In h) (G : h.Ns mainGlobals mg) (hfa : mg "law" = some (.ref fa))
    {od1 an1 od2 an2 od3 an3 od4 an4 od5 an5 od6 an6 od7 an7 od8 an8 od9 an9 od10 an10 : Option Addr} {sl1 sl2 sl3 sl4 sl5 sl6 sl7 sl8 sl9 sl10 : Array (Option Value)} {oc1 kV1 dc1 pm1 cd1 ct1 oc2 kV2 dc2 pm2 cd2 ct2 oc3 kV3 dc3 pm3 cd3 ct3 oc4 kV4 dc4 pm4 cd4 ct4 oc5 kV5 dc5 pm5 cd5 ct5 oc6 kV6 dc6 pm6 cd6 ct6 oc7 kV7 dc7 pm7 cd7 ct7 oc8 kV8 dc8 pm8 cd8 ct8 oc9 kV9 dc9 pm9 cd9 ct9 oc10 kV10 dc10 pm10 cd10 ct10 : Value}
    (a1 : PySem.W.nsIn K mainGlobals "power_of" = some (some (.ref f1))) (l1 : K.lookup f1 = some ⟨oc1, od1, .func (PySem.W.fnOf "power_of" "power_of" (defArgs st_power_of) (defBody st_power_of) (defScope st_power_of) .none kV1 dc1 pm1 an1 cd1 ct1), sl1⟩) (c1 : PySem.W.codeIn K cd1 "power_of" = true) (k1 : PySem.W.keepIn K (.ref f1) = true)
    (a2 : PySem.W.nsIn K mainGlobals "gap_of" = some (some (.ref f2))) (l2 : K.lookup f2 = some ⟨oc2, od2, .func (PySem.W.fnOf "gap_of" "gap_of" (defArgs st_gap_of) (defBody st_gap_of) (defScope st_gap_of) .none kV2 dc2 pm2 an2 cd2 ct2), sl2⟩) (c2 : PySem.W.codeIn K cd2 "gap_of" = true) (k2 : PySem.W.keepIn K (.ref f2) = true)
    (a3 : PySem.W.nsIn K mainGlobals "base_of" = some (some (.ref f3))) (l3 : K.lookup f3 = some ⟨oc3, od3, .func (PySem.W.fnOf "base_of" "base_of" (defArgs st_base_of) (defBody st_base_of) (defScope st_base_of) .none kV3 dc3 pm3 an3 cd3 ct3), sl3⟩) (c3 : PySem.W.codeIn K cd3 "base_of" = true) (k3 : PySem.W.keepIn K (.ref f3) = true)
    (a4 : PySem.W.nsIn K mainGlobals "width" = some (some (.ref f4))) (l4 : K.lookup f4 = some ⟨oc4, od4, .func (PySem.W.fnOf "width" "width" (defArgs st_width) (defBody st_width) (defScope st_width) .none kV4 dc4 pm4 an4 cd4 ct4), sl4⟩) (c4 : PySem.W.codeIn K cd4 "width" = true) (k4 : PySem.W.keepIn K (.ref f4) = true)
    (a5 : PySem.W.nsIn K mainGlobals "_law_deck" = some (some (.ref f5))) (l5 : K.lookup f5 = some ⟨oc5, od5, .func (PySem.W.fnOf "_law_deck" "_law_deck" (defArgs st__law_deck) (defBody st__law_deck) (defScope st__law_deck) .none kV5 dc5 pm5 an5 cd5 ct5), sl5⟩) (c5 : PySem.W.codeIn K cd5 "_law_deck" = true) (k5 : PySem.W.keepIn K (.ref f5) = true)
    (a6 : PySem.W.nsIn K mainGlobals "_law_draw" = some (some (.ref f6))) (l6 : K.lookup f6 = some ⟨oc6, od6, .func (PySem.W.fnOf "_law_draw" "_law_draw" (defArgs st__law_draw) (defBody st__law_draw) (defScope st__law_draw) .none kV6 dc6 pm6 an6 cd6 ct6), sl6⟩) (c6 : PySem.W.codeIn K cd6 "_law_draw" = true) (k6 : PySem.W.keepIn K (.ref f6) = true)
    (a7 : PySem.W.nsIn K mainGlobals "_law_pick" = some (some (.ref f7))) (l7 : K.lookup f7 = some ⟨oc7, od7, .func (PySem.W.fnOf "_law_pick" "_law_pick" (defArgs st__law_pick) (defBody st__law_pick) (defScope st__law_pick) .none kV7 dc7 pm7 an7 cd7 ct7), sl7⟩) (c7 : PySem.W.codeIn K cd7 "_law_pick" = true) (k7 : PySem.W.keepIn K (.ref f7) = true)
    (a8 : PySem.W.nsIn K mainGlobals "_law_order" = some (some (.ref f8))) (l8 : K.lookup f8 = some ⟨oc8, od8, .func (PySem.W.fnOf "_law_order" "_law_order" (defArgs st__law_order) (defBody st__law_order) (defScope st__law_order) .none kV8 dc8 pm8 an8 cd8 ct8), sl8⟩) (c8 : PySem.W.codeIn K cd8 "_law_order" = true) (k8 : PySem.W.keepIn K (.ref f8) = true)
    (a9 : PySem.W.nsIn K mainGlobals "_law_width" = some (some (.ref f9))) (l9 : K.lookup f9 = some ⟨oc9, od9, .func (PySem.W.fnOf "_law_width" "_law_width" (defArgs st__law_width) (defBody st__law_width) (defScope st__law_width) .none kV9 dc9 pm9 an9 cd9 ct9), sl9⟩) (c9 : PySem.W.codeIn K cd9 "_law_width" = true) (k9 : PySem.W.keepIn K (.ref f9) = true)
    (a10 : PySem.W.nsIn K mainGlobals "law" = some (some (.ref f10))) (l10 : K.lookup f10 = some ⟨oc10, od10, .func (PySem.W.fnOf "law" "law" (defArgs st_law) (defBody st_law) (defScope st_law) .none kV10 dc10 pm10 an10 cd10 ct10), sl10⟩) (c10 : PySem.W.codeIn K cd10 "law" = true) (k10 : PySem.W.keepIn K (.ref f10) = true)
    (z_enumerate : PySem.W.nsIn K mainGlobals "enumerate" = some none)
    (z_len : PySem.W.nsIn K mainGlobals "len" = some none)
    (z_list : PySem.W.nsIn K mainGlobals "list" = some none)
    (z_max : PySem.W.nsIn K mainGlobals "max" = some none)
    (z_range : PySem.W.nsIn K mainGlobals "range" = some none)
    (z_repr : PySem.W.nsIn K mainGlobals "repr" = some none)
    (z_tuple : PySem.W.nsIn K mainGlobals "tuple" = some none)
    (z_zip : PySem.W.nsIn K mainGlobals "zip" = some none)
    : ∃ fd : FuncData, (∀ (s : Shared) (v : Value), BindsTo s fd ⟨[v], []⟩ [("_law_script", v)]) ∧ ∀ base : Heap, K.In base → base.Ns mainGlobals mg → FnG l.prog w K mg base CX0 4 fa fd ["_law_script"] (sp_law K) := by
  have e := hfa.symm.trans (PySem.W.mg_of X G a10)
  cases e
  have T : Txt mg := ⟨PySem.W.mg_none_of X G z_enumerate, PySem.W.mg_none_of X G z_len, PySem.W.mg_none_of X G z_list, PySem.W.mg_none_of X G z_max, PySem.W.mg_none_of X G z_range, PySem.W.mg_none_of X G z_repr, PySem.W.mg_none_of X G z_tuple, PySem.W.mg_none_of X G z_zip⟩
  have F1 := fun_mk (st := st_power_of) l1 c1 k1
  have F2 := fun_mk (st := st_gap_of) l2 c2 k2
  have F3 := fun_mk (st := st_base_of) l3 c3 k3
  have F4 := fun_mk (st := st_width) l4 c4 k4
  have F5 := fun_mk (st := st__law_deck) l5 c5 k5
  have F6 := fun_mk (st := st__law_draw) l6 c6 k6
  have F7 := fun_mk (st := st__law_pick) l7 c7 k7
  have F8 := fun_mk (st := st__law_order) l8 c8 k8
  have F9 := fun_mk (st := st__law_width) l9 c9 k9
  have F10 := fun_mk (st := st_law) l10 c10 k10
  refine ⟨PySem.W.fnOf "law" "law" (defArgs st_law) (defBody st_law) (defScope st_law) .none kV10 dc10 pm10 an10 cd10 ct10, fun s v => .of_eq rfl, fun base _ _ => ?_⟩
  have g1 : FnG l.prog w K mg base CX0 1 f1 _ ["size", "count"] (sp_power_of) := ok_power_of T F1
  have q1 : Cg l.prog w K mg base CX0 1 "power_of" (sp_power_of) := ⟨⟨f1, _, ["size", "count"], g1, PySem.W.mg_of X G a1, k1, F1.binds (ps := ["size", "count"]) fun _ _ _ _ _ _ us hl => match us, hl with | [_, _], _ => rfl⟩⟩
  have g2 : FnG l.prog w K mg base CX0 1 f2 _ ["talk", "station"] (sp_gap_of K) := ok_gap_of T F2
  have q2 : Cg l.prog w K mg base CX0 1 "gap_of" (sp_gap_of K) := ⟨⟨f2, _, ["talk", "station"], g2, PySem.W.mg_of X G a2, k2, F2.binds (ps := ["talk", "station"]) fun _ _ _ _ _ _ us hl => match us, hl with | [_, _], _ => rfl⟩⟩
  have g3 : FnG l.prog w K mg base CX0 2 f3 _ ["talk", "station"] (sp_base_of K) := ok_base_of T q2 q1 F3
  have q3 : Cg l.prog w K mg base CX0 2 "base_of" (sp_base_of K) := ⟨⟨f3, _, ["talk", "station"], g3, PySem.W.mg_of X G a3, k3, F3.binds (ps := ["talk", "station"]) fun _ _ _ _ _ _ us hl => match us, hl with | [_, _], _ => rfl⟩⟩
  have g4 : FnG l.prog w K mg base CX0 3 f4 _ ["talk", "station", "rounds"] (sp_width K) := ok_width T q3 F4
  have q4 : Cg l.prog w K mg base CX0 3 "width" (sp_width K) := ⟨⟨f4, _, ["talk", "station", "rounds"], g4, PySem.W.mg_of X G a4, k4, F4.binds (ps := ["talk", "station", "rounds"]) fun _ _ _ _ _ _ us hl => match us, hl with | [_, _, _], _ => rfl⟩⟩
  have g5 : FnG l.prog w K mg base CX0 1 f5 _ ["_law_script"] (sp_deck K) := ok_deck T F5
  have q5 : Cg l.prog w K mg base CX0 1 "_law_deck" (sp_deck K) := ⟨⟨f5, _, ["_law_script"], g5, PySem.W.mg_of X G a5, k5, F5.binds (ps := ["_law_script"]) fun _ _ _ _ _ _ us hl => match us, hl with | [_], _ => rfl⟩⟩
  have g6 : FnG l.prog w K mg base CX0 1 f6 _ ["_law_deck_here", "_law_many"] (sp_draw) := ok_draw T F6
  have q6 : Cg l.prog w K mg base CX0 1 "_law_draw" (sp_draw) := ⟨⟨f6, _, ["_law_deck_here", "_law_many"], g6, PySem.W.mg_of X G a6, k6, F6.binds (ps := ["_law_deck_here", "_law_many"]) fun _ _ _ _ _ _ us hl => match us, hl with | [_, _], _ => rfl⟩⟩
  have g7 : FnG l.prog w K mg base CX0 2 f7 _ ["_law_deck_here", "_law_some"] (sp_pick) := ok_pick T q6 F7
  have q7 : Cg l.prog w K mg base CX0 2 "_law_pick" (sp_pick) := ⟨⟨f7, _, ["_law_deck_here", "_law_some"], g7, PySem.W.mg_of X G a7, k7, F7.binds (ps := ["_law_deck_here", "_law_some"]) fun _ _ _ _ _ _ us hl => match us, hl with | [_, _], _ => rfl⟩⟩
  have g8 : FnG l.prog w K mg base CX0 2 f8 _ ["_law_deck_here", "_law_stations", "_law_most"] (sp_order) := ok_order T q6 F8
  have q8 : Cg l.prog w K mg base CX0 2 "_law_order" (sp_order) := ⟨⟨f8, _, ["_law_deck_here", "_law_stations", "_law_most"], g8, PySem.W.mg_of X G a8, k8, F8.binds (ps := ["_law_deck_here", "_law_stations", "_law_most"]) fun _ _ _ _ _ _ us hl => match us, hl with | [_, _, _], _ => rfl⟩⟩
  have g9 : FnG l.prog w K mg base CX0 1 f9 _ ["_law_size", "_law_order_here", "_law_who", "_law_span"] (sp_lwidth) := ok_lwidth T F9
  have q9 : Cg l.prog w K mg base CX0 1 "_law_width" (sp_lwidth) := ⟨⟨f9, _, ["_law_size", "_law_order_here", "_law_who", "_law_span"], g9, PySem.W.mg_of X G a9, k9, F9.binds (ps := ["_law_size", "_law_order_here", "_law_who", "_law_span"]) fun _ _ _ _ _ _ us hl => match us, hl with | [_, _, _, _], _ => rfl⟩⟩
  have qk : Cgk l.prog w K mg base CX0 3 "width" ["rounds", "station", "talk"] (sk_width K) := ck_width g4 (PySem.W.mg_of X G a4) k4 (fun s ws _ hl => match ws, hl with | [_, _, _], _ => .of_eq rfl)
  exact ok_law T q5 q6 q8 q7 q9 q4 qk F10
end K09
open PySem PySem.W PyProof.Rows in
set_option maxRecDepth 100000 in
set_option maxHeartbeats 0 in
theorem PySem.Challenge.cw_lyingwire_k09_widths_holds : PySem.Challenge.rw_lyingwire_k09_widths.Holds := by
  w_on; o_law; k_head; (case hw => w_witness2)
  k_fill
  refine L3.walk_ofG (l := PySem.Challenge.rw_lyingwire_k09_widths) (n := 63) (k := 4) (x := "_law_script") (sp := K09.sp_law) rfl (by decide) rfl ⟨rfl, by decide, by decide⟩ (fun w h Y => PySem.W.kIn_of Y) ?F (fun _ H a ns hl hS _ => ⟨H, a, ns, rfl, ⟨L3.Ex.refl H, fun p hp => absurd hp List.not_mem_nil, List.Pairwise.nil⟩, hS, hl, fun _ => rfl⟩)
  case F =>
    intro w mg fa h KX G hmg
    refine' K09.all_mk KX G hmg ?a1 ?l1 ?c1 ?k1 ?a2 ?l2 ?c2 ?k2 ?a3 ?l3 ?c3 ?k3 ?a4 ?l4 ?c4 ?k4 ?a5 ?l5 ?c5 ?k5 ?a6 ?l6 ?c6 ?k6 ?a7 ?l7 ?c7 ?k7 ?a8 ?l8 ?c8 ?k8 ?a9 ?l9 ?c9 ?k9 ?a10 ?l10 ?c10 ?k10 ?z_enumerate ?z_len ?z_list ?z_max ?z_range ?z_repr ?z_tuple ?z_zip
    (case a1 => k_is)
    (case l1 => k_is)
    (case c1 => k_is)
    (case k1 => k_is)
    (case a2 => k_is)
    (case l2 => k_is)
    (case c2 => k_is)
    (case k2 => k_is)
    (case a3 => k_is)
    (case l3 => k_is)
    (case c3 => k_is)
    (case k3 => k_is)
    (case a4 => k_is)
    (case l4 => k_is)
    (case c4 => k_is)
    (case k4 => k_is)
    (case a5 => k_is)
    (case l5 => k_is)
    (case c5 => k_is)
    (case k5 => k_is)
    (case a6 => k_is)
    (case l6 => k_is)
    (case c6 => k_is)
    (case k6 => k_is)
    (case a7 => k_is)
    (case l7 => k_is)
    (case c7 => k_is)
    (case k7 => k_is)
    (case a8 => k_is)
    (case l8 => k_is)
    (case c8 => k_is)
    (case k8 => k_is)
    (case a9 => k_is)
    (case l9 => k_is)
    (case c9 => k_is)
    (case k9 => k_is)
    (case a10 => k_is)
    (case l10 => k_is)
    (case c10 => k_is)
    (case k10 => k_is)
    (case z_enumerate => k_is)
    (case z_len => k_is)
    (case z_list => k_is)
    (case z_max => k_is)
    (case z_range => k_is)
    (case z_repr => k_is)
    (case z_tuple => k_is)
    (case z_zip => k_is)

