import PyProof.Rows.All
import Wide.All
import OpenK.AllK
import Wide.FinOn
import HandS.ForMost
import HandS.TupAny
import KE.GoesEnum
import HandS.TupMul
import HandS.Style
import HandS.Conv
import HandS.Walk
import HandS.Deep
import HandS.SetFor
import HandS.Star
import KE.KStar
import PyProof.ReprLen
import HandS.Strs
import PySem.Challenge.RW_lyingwire_k11_announced_symbols
set_option Elab.async false
set_option maxRecDepth 100000
set_option maxHeartbeats 4000000
/-! walks that hand out new tuples: enumerate and zip over lists and tuples, in any mix. -/
namespace L3
open PySem PySem.Spec PyProof.Rows L2
abbrev St := L2.St
/-- n turns, each handing out a new tuple of values; the source is what G says -/
def Itu (n : Nat) (G : Hp → Prop) (Y : Nat → List V → Prop) : It :=
  ⟨fun i H => i < n ∧ G H, fun i H v H' => ∃ T vs, v = .ref T ∧ H T = none ∧ H' = upd H T (.tup vs) ∧ Y i vs, fun i H => i = n ∧ G H⟩

theorem turn_of {P : Program} {w : World} {K : PySem.W.Frag} {elts : List Expr} {kk : Nat} {tpos : Pos} {e : Addr} {fp wr : List Addr} {n : Nat} {G : Hp → Prop} {Y : Nat → List V → Prop} {S : Nat → Heap → Prop}
    (hmem : e ∈ fp) (hwr : ∀ b ∈ wr, b ∈ fp) (hobj : ∀ i h, S i h → ∀ b ∈ fp, ∃ o, h.get? b = some o ∧ ∀ v, o.data ≠ .cell v)
    (hkeep : ∀ i h h', S i h → (∀ b ∈ fp, ∀ o, h.get? b = some o → h'.get? b = some o) → S i h')
    (hself : ∀ (A : Around) (i : Nat) (s : Shared) (Q : Value → Shared → Prop) (E : Value → Shared → Prop), S i s.heap → Q (.ref e) s → wpAny (model P w) A (pyIter (.ref e)) Q E s)
    (hC : ∀ (X : Cx) pins σ H s, X.prog = P → X.w = w → X.K = K → X.calm = true → Inv X pins σ H s → G H → ∃ (fq : List Addr) (Pt : Nat → Array Value → Prop) (Mid : Nat → Addr → Heap → Prop) (C : Heap → Prop),
      WalksT P w X.A e fq wr n Pt (fun i h => S i h ∧ C h) Mid ∧ C s.heap ∧ ∀ i vals, Pt i vals → ∃ vs, Vals vs vals.toList ∧ Y i vs ∧ vs.length ≤ sizeLine) :
    Turn P w K (.Tuple elts kk tpos) (Itu n G Y) fp e S where
  mem := hmem
  obj := hobj
  keep := hkeep
  item := by
    intro X hP hw hK hc i pins s σ H E I hf st hg
    obtain ⟨hi, g⟩ := hg
    obtain ⟨fq, Pt, Mid, C, W, c, hY⟩ := hC X pins σ H s hP hw hK hc I g
    subst hP hw hK
    refine W.item i s _ E hi ⟨st, c⟩ fun T vals h1 tk hPt hT hTup hmid hk => ?_
    refine ⟨_, rfl, W.go elts kk tpos i T _ _ _ hmid fun h2 st2 hk2 => ?_⟩
    obtain ⟨vs, rv, y, hl⟩ := hY i vals hPt
    have hT2 : h2.IsTuple T vals := hTup.at fun o q => hk2 T o (W.apart i T h1 hmid) q
    have new : ObjOk X.prog X.w (upd H T (.tup vs)) h2 T (.tup vs) := ⟨hl, vals.toList, rv, hT2⟩
    have I1 : Inv X pins σ (upd H T (.tup vs)) { s with heap := h2, toks := tk } :=
      I.turnedNew (ch := wr) (fun b ob hb q => hk2 b ob hb (hk b ob hb q)) (fun b hb => hf b (hwr b hb)) hT new
    refine ⟨.ref T, _, I1, rfl, ⟨T, vs, rfl, I.hok.fresh hT, rfl, y⟩, st2.1, fun b hb => ?_⟩
    obtain ⟨o, ho, _⟩ := hobj i s.heap st b hb
    rw [upd_ne (Nat.ne_of_lt (Nat.lt_of_lt_of_le (Heap.lt_size ho) hT))]
    exact (hf b hb).1
  done := by
    intro X hP hw hK hc i pins s σ H E I hf st hg
    obtain ⟨rfl, g⟩ := hg
    obtain ⟨fq, Pt, Mid, C, W, c, hY⟩ := hC X pins σ H s hP hw hK hc I g
    subst hP hw hK
    exact W.done s _ E ⟨st, c⟩ fun h1 tk hk => ⟨rfl, I.turnedL (ch := wr) hk fun b hb => hf b (hwr b hb)⟩
  self := hself

/-- a list or a tuple of the values xs stands at a -/
def Sq (K : PySem.W.Frag) (H : Hp) (a : Addr) (xs : List V) : Prop := SqL K H a xs ∨ SqT K H a xs
/-- a list or a tuple as a source of an iterator -/
structure Kd (K : PySem.W.Frag) (a : Addr) (xs : List V) where
  o : Obj
  S : Nat → Addr → Heap → Prop
  C : List Value → Heap → Prop
  G : Hp → Prop
  begins : ∀ its : List Value, Begins (.ref a) o (C its)
  start : ∀ h it, h.get? it = some o → S 0 it h
  draws : ∀ (prog : Program) (w : World) (A : Around) (it : Addr) (its : List Value), A.handled = none → a ≠ it → Draws prog w A it [it, a] its.length (fun i v => its[i]? = some v) (fun i h => S i it h ∧ C its h)
  live : ∀ i it h, S i it h → ∃ u, h.get? it = some u ∧ ∀ v, u.data ≠ .cell v
  keep : ∀ i it h h', S i it h → (∀ u, h.get? it = some u → h'.get? it = some u) → S i it h'
  cont : ∀ (X : Cx) pins σ H s, X.K = K → Inv X pins σ H s → G H → ∃ its, Vals xs its ∧ C its s.heap ∧ a < s.heap.objs.size
def kdL (K : PySem.W.Frag) (a : Addr) (xs : List V) : Kd K a xs where
  o := { cls := .type "list_iterator", data := .fields #[.ref a, .int 0 0] }
  S := fun i it h => h.IsListIter it a i
  C := fun its h => h.IsList a its.toArray
  G := fun H => SqL K H a xs
  begins := fun its => begins_list a its.toArray
  start := fun h it e => ⟨_, e, rfl, rfl⟩
  draws := fun prog w A it its hh hne => by
    have D := Draws.list (prog := prog) (w := w) (A := A) hh it a hne its.toArray
    simpa using D
  live := fun i it h st => let ⟨u, hu, _, hd⟩ := st; ⟨u, hu, fun v q => by rw [hd] at q; cases q⟩
  keep := fun i it h h' st k => st.at k
  cont := fun X pins σ H s hK I g => by
    subst hK
    obtain ⟨its, rv, p, _⟩ := I.list g
    exact ⟨its, rv, p.isList, p.lt⟩
def kdT (K : PySem.W.Frag) (a : Addr) (xs : List V) : Kd K a xs where
  o := { cls := .type "tuple_iterator", data := .fields #[.ref a, .int 0 0] }
  S := fun i it h => h.IsTupleIter it a i
  C := fun its h => h.IsTuple a its.toArray
  G := fun H => SqT K H a xs
  begins := fun its => begins_tuple a its.toArray
  start := fun h it e => ⟨_, e, rfl, rfl⟩
  draws := fun prog w A it its hh hne => by
    have D := Draws.tuple (prog := prog) (w := w) (A := A) hh it a hne its.toArray
    simpa using D
  live := fun i it h st => let ⟨u, hu, _, hd⟩ := st; ⟨u, hu, fun v q => by rw [hd] at q; cases q⟩
  keep := fun i it h h' st k => st.at k
  cont := fun X pins σ H s hK I g => by
    subst hK
    obtain ⟨its, rv, p, _⟩ := I.tuple g
    exact ⟨its, rv, p, p.lt⟩
theorem Sq.kd {K : PySem.W.Frag} {H : Hp} {a : Addr} {xs : List V} (h : Sq K H a xs) : ∃ kd : Kd K a xs, kd.G H ∧ ∀ H', kd.G H' → Sq K H' a xs := by
  rcases h with h | h
  · exact ⟨kdL K a xs, h, fun _ g => .inl g⟩
  · exact ⟨kdT K a xs, h, fun _ g => .inr g⟩

set_option maxHeartbeats 1000000 in
theorem meets_enum1 {v : Value} {o : Obj} {H : Heap → Prop} (B : Begins v o H) :
    Meets (Builtin.«enumerate.__new__» ⟨[.type "enumerate", v], []⟩) (fun _ R s => H s.heap ∧
      R (.ok (.ret (.ref (s.heap.push o).objs.size))) { s with heap := (s.heap.push o).push { cls := .type "enumerate", data := .fields #[.none, .bool false, .ref s.heap.objs.size, rawInt 0, .none, .none] } }) :=
  .of_wp fun prog w A R s hh => by
    obtain ⟨hp, g, d, tk, os⟩ := s
    obtain ⟨h1, hR⟩ := hh
    have hsub := sub_enumerate
    have it1 : ∀ {A' : Around} {E : Value → Shared → Prop} {Q : Value → Shared → Prop}, Q (.ref hp.objs.size) ⟨hp.push o, g, d, tk, os⟩ → wpAny (model prog w) A' (pyIter v) Q E ⟨hp, g, d, tk, os⟩ :=
      fun q => B.iter prog w _ _ ⟨hp, g, d, tk, os⟩ _ h1 q
    wp_walk using it1
    refine wpAny_stack_any fun stk => wpAny_pure ?_
    split
    · rename_i c _ _ _ _ _
      cases (c == Value.type "enumerate") <;> (wp_walk using it1; exact ⟨_, rfl, hR⟩)
    · wp_walk using it1
      exact ⟨_, rfl, hR⟩
theorem enum1_begins {prog : Program} {w : World} {A : Around} {E : Value → Shared → Prop} {s : Shared} {v : Value} {o : Obj} {H : Heap → Prop} {Q : Value → Shared → Prop} (B : Begins v o H) (h1 : H s.heap)
    (h : ∀ h', IsEnum h' (s.heap.objs.size + 1) s.heap.objs.size 0 .none → h'.get? s.heap.objs.size = some o → h'.objs.size = s.heap.objs.size + 2 →
      (∀ b u, s.heap.get? b = some u → h'.get? b = some u) → Q (.ref (s.heap.objs.size + 1)) { s with heap := h' }) :
    wpAny (model prog w) A (call (.type "enumerate") [v]) Q E s := by
  refine callType_new F.called_enumerate (by decide) (F.typeCall_enumerate_1 _) (F.newCall_enumerate_1 _) (fun obj => F.args_object_init_2 obj _) F.entry_enumerate_new (meets_enum1 B) ⟨h1, ?_⟩
  have hz : (s.heap.push o).objs.size = s.heap.objs.size + 1 := Heap.size_push ..
  show _ ∧ _
  rw [hz]
  have he := Heap.get?_push_size (s.heap.push o) (o := { cls := .type "enumerate", data := .fields #[.none, .bool false, .ref s.heap.objs.size, rawInt 0, .none, .none] }) rfl
  rw [hz] at he
  exact ⟨⟨_, he, rfl⟩, h _ he (Heap.get?_push_of_some _ (Heap.get?_push_size _ B.free)) (by rw [Heap.size_push, hz]) fun b u x => Heap.get?_push_of_some _ (Heap.get?_push_of_some _ x)⟩

/-- for .. in enumerate(a list or a tuple) -/
def YEnum (xs : List V) : Nat → List V → Prop := fun i us => ∃ x, xs[i]? = some x ∧ us = [.int (i : Nat), x]
def iEnumS (K : PySem.W.Frag) (ta : TA) : TI := fun σ H R => ta σ H fun vs H1 => ∃ a xs, vs = [.ref a] ∧
  ((SqL K H1 a xs ∧ R (Itu xs.length (fun H => SqL K H a xs) (YEnum xs)) H1) ∨ (SqT K H1 a xs ∧ R (Itu xs.length (fun H => SqT K H a xs) (YEnum xs)) H1))
theorem pi_enumS {X : Cx} {e : Expr} {ta : TA} {p pos tpos : Pos} {elts : List Expr} {kk : Nat} (hg : Gl X "enumerate") (hm : X.mg "enumerate" = none) (ha : PA X [e] ta) (hs : starEach [e] X.env = [(false, eval e X.env)] := by rfl) :
    PI X (.Tuple elts kk tpos) (.Call (.Name "enumerate" p) [e] [] pos) (iEnumS X.K ta) := by
  refine ⟨fun pins s σ H R I h => ?_⟩
  refine Call_ (ld_blt I hg hm boot_enumerate (PyProof.Rows.callWith_type1 (thn (ha.run pos pins s σ H _ I h) fun us s1 ⟨vs, H1, I1, r1, q1⟩ => ?_) hs rfl))
  obtain ⟨a, xs, ex, hq⟩ := q1
  subst ex
  cases r1 with
  | cons r rr =>
    cases rr
    cases r
    have go : ∀ kd : Kd X.K a xs, kd.G H1 → R (Itu xs.length kd.G (YEnum xs)) H1 →
        wpAny (model X.prog X.w) X.A (call (.type "enumerate") [.ref a]) (fun v s1 => wpAny (model X.prog X.w) X.A (pyIter v) (PIE X pins σ (.Tuple elts kk tpos) R) X.xe s1) X.xe s1 := by
      intro kd g q
      obtain ⟨its, rv, hc, hlt⟩ := kd.cont X pins σ H1 s1 rfl I1 g
      refine enum1_begins (kd.begins its) hc fun h1 he hit hsz hk => wpAny_pyIter_enum he ?_
      have I2 : Inv X pins σ H1 { s1 with heap := h1 } := I1.kept (t' := s1.toks) hk
      refine ⟨s1.heap.objs.size + 1, [s1.heap.objs.size + 1, s1.heap.objs.size], fun i h => (∃ old, IsEnum h (s1.heap.objs.size + 1) s1.heap.objs.size (0 + (i : Int)) old) ∧ kd.S i s1.heap.objs.size h, _, H1, rfl, I2,
        turn_of (wr := [s1.heap.objs.size + 1, s1.heap.objs.size]) (by simp) (fun b hb => hb) (fun i h st b hb => ?_) (fun i h h' st k => ?_) (fun A i s Q E st hQ => ?_) (fun Y pins' σ' H' s' hP hw hK hcalm I' g' => ?_),
        ⟨⟨.none, he⟩, kd.start _ _ hit⟩, fun b hb => ?_, q⟩
      · obtain ⟨⟨old, he'⟩, st'⟩ := st
        have e' : b = s1.heap.objs.size + 1 ∨ b = s1.heap.objs.size := by simpa using hb
        rcases e' with z | z
        · rw [z]; exact ⟨_, he', fun v q => nomatch q⟩
        · rw [z]; exact kd.live i _ h st'
      · obtain ⟨⟨old, he'⟩, st'⟩ := st
        exact ⟨⟨old, k _ (by simp) _ he'⟩, kd.keep i _ h h' st' fun u hu => k _ (by simp) u hu⟩
      · obtain ⟨⟨old, he'⟩, _⟩ := st
        exact wpAny_pyIter_enum he' hQ
      · obtain ⟨its', rv', hc', hlt'⟩ := kd.cont Y pins' σ' H' s' hK I' g'
        have ne1 : a ≠ s1.heap.objs.size := Nat.ne_of_lt hlt
        have D := kd.draws Y.prog Y.w Y.A.in1 s1.heap.objs.size its' (I'.ok.hd hcalm) ne1
        have W := WalksT.enumFrom (A := Y.A) 0 D (s1.heap.objs.size + 1) (Nat.succ_ne_self _) (fun hm => by
          have e' : s1.heap.objs.size + 1 = s1.heap.objs.size ∨ s1.heap.objs.size + 1 = a := by simpa using hm
          rcases e' with z | z
          · exact absurd z (Nat.succ_ne_self _)
          · rw [← z] at hlt; exact absurd (Nat.lt_trans (Nat.lt_succ_self _) hlt) (Nat.lt_irrefl _)) (by simp)
        rw [hP, hw] at W
        have e : (fun (i : Nat) (h : Heap) => (∃ old, IsEnum h (s1.heap.objs.size + 1) s1.heap.objs.size (0 + (i : Int)) old) ∧ kd.S i s1.heap.objs.size h ∧ kd.C its' h) = fun (i : Nat) (h : Heap) => ((∃ old, IsEnum h (s1.heap.objs.size + 1) s1.heap.objs.size (0 + (i : Int)) old) ∧ kd.S i s1.heap.objs.size h) ∧ kd.C its' h := by
          funext i h; rw [and_assoc]
        rw [e, ← rv'.length] at W
        refine ⟨_, _, _, kd.C its', W, hc', ?_⟩
        · rintro i vals ⟨t, x, hx, rfl⟩
          have hx' : its'[i]? = some x := hx
          have hl : i < xs.length := by rw [rv'.length]; exact (List.getElem?_eq_some_iff.mp hx').1
          obtain ⟨u, hu, ru⟩ := rv'.get (List.getElem?_eq_getElem hl)
          rw [hx'] at hu
          cases hu
          refine ⟨[.int (i : Nat), xs[i]], .cons ⟨t, ?_⟩ (.cons ru .nil), ⟨_, List.getElem?_eq_getElem hl, rfl⟩, by show 2 ≤ sizeLine; decide⟩
          rw [Int.zero_add]
      · have e' : b = s1.heap.objs.size + 1 ∨ b = s1.heap.objs.size := by simpa using hb
        have hle : s1.heap.objs.size ≤ b := by
          rcases e' with z | z
          · rw [z]; exact Nat.le_add_right _ _
          · rw [z]; exact Nat.le_refl _
        exact I1.fpOk hle (I1.hok.fresh hle)
    rcases hq with ⟨g, q⟩ | ⟨g, q⟩
    · exact go (kdL X.K a xs) g q
    · exact go (kdT X.K a xs) g q

/-- zip of two lists or tuples, in any mix -/
def YZip (xs ys : List V) : Nat → List V → Prop := fun i us => ∃ x y, xs[i]? = some x ∧ ys[i]? = some y ∧ us = [x, y]
def iZipS (K : PySem.W.Frag) (ta : TA) : TI := fun σ H R => ta σ H fun vs H1 => ∃ a b xs ys, vs = [.ref a, .ref b] ∧
  ((SqL K H1 a xs ∧ SqL K H1 b ys ∧ R (Itu (min xs.length ys.length) (fun H => SqL K H a xs ∧ SqL K H b ys) (YZip xs ys)) H1) ∨
   (SqL K H1 a xs ∧ SqT K H1 b ys ∧ R (Itu (min xs.length ys.length) (fun H => SqL K H a xs ∧ SqT K H b ys) (YZip xs ys)) H1) ∨
   (SqT K H1 a xs ∧ SqL K H1 b ys ∧ R (Itu (min xs.length ys.length) (fun H => SqT K H a xs ∧ SqL K H b ys) (YZip xs ys)) H1) ∨
   (SqT K H1 a xs ∧ SqT K H1 b ys ∧ R (Itu (min xs.length ys.length) (fun H => SqT K H a xs ∧ SqT K H b ys) (YZip xs ys)) H1))
theorem pi_zipS {X : Cx} {e e2 : Expr} {ta : TA} {p pos tpos : Pos} {elts : List Expr} {kk : Nat} (hg : Gl X "zip") (hm : X.mg "zip" = none) (ha : PA X [e, e2] ta)
    (hs : starEach [e, e2] X.env = (false, eval e X.env) :: starEach [e2] X.env := by rfl) (hpl : (backTo pos (starEach [e2] X.env)).any (·.1) = false := by rfl) :
    PI X (.Tuple elts kk tpos) (.Call (.Name "zip" p) [e, e2] [] pos) (iZipS X.K ta) := by
  refine ⟨fun pins s σ H R I h => ?_⟩
  refine Call_ (ld_blt I hg hm PyProof.Rows.boot_zip (PyProof.Rows.callWith_type1 (thn (ha.run pos pins s σ H _ I h) fun us s1 ⟨vs, H1, I1, r1, q1⟩ => ?_) hs hpl))
  obtain ⟨a, b, xs, ys, ex, hq⟩ := q1
  subst ex
  cases r1 with
  | cons r rr =>
    cases rr with
    | cons r' rr =>
      cases rr
      cases r
      cases r'
      have go : ∀ (kd : Kd X.K a xs) (kf : Kd X.K b ys), kd.G H1 → kf.G H1 → R (Itu (min xs.length ys.length) (fun H => kd.G H ∧ kf.G H) (YZip xs ys)) H1 →
          wpAny (model X.prog X.w) X.A (call (.type "zip") [.ref a, .ref b]) (fun v s1 => wpAny (model X.prog X.w) X.A (pyIter v) (PIE X pins σ (.Tuple elts kk tpos) R) X.xe s1) X.xe s1 := by
        intro kd kf g gf q
        obtain ⟨its, rv, hc, hlt⟩ := kd.cont X pins σ H1 s1 rfl I1 g
        obtain ⟨itf, rvf, hcf, hltf⟩ := kf.cont X pins σ H1 s1 rfl I1 gf
        refine zip_begins2 (kd.begins its) (kf.begins itf) hc hcf fun h1 hz hTI hTO hi1 hi2 hsz hk => wpAny_pyIter_zip hz ?_
        have I2 : Inv X pins σ H1 { s1 with heap := h1 } := I1.kept (t' := s1.toks) hk
        generalize hN : s1.heap.objs.size = N at *
        refine ⟨N + 4, [N + 4, N + 2, N + 3, N, N + 1], fun i h => IsZip h (N + 4) (N + 2) (N + 3) .none ∧ IsTupOf2 h (N + 2) (.ref N) (.ref (N + 1)) ∧ (∃ a1 a2, IsTupOf2 h (N + 3) a1 a2) ∧ kd.S i N h ∧ kf.S i (N + 1) h, _, H1, rfl, I2,
          turn_of (wr := [N + 4, N + 3, N, N + 1]) (by simp) (fun c hcm => ?_) (fun i h st c hcm => ?_) (fun i h h' st k => ?_) (fun A i s Q E st hQ => ?_) (fun Y pins' σ' H' s' hP hw hK hcalm I' g' => ?_),
          ⟨hz, hTI, ⟨_, _, hTO⟩, kd.start _ _ hi1, kf.start _ _ hi2⟩, fun c hcm => ?_, q⟩
        · have e' : c = N + 4 ∨ c = N + 3 ∨ c = N ∨ c = N + 1 := by simpa using hcm
          rcases e' with z | z | z | z <;> rw [z] <;> simp
        · obtain ⟨z1, z2, ⟨a1, a2, z3⟩, z4, z5⟩ := st
          have e' : c = N + 4 ∨ c = N + 2 ∨ c = N + 3 ∨ c = N ∨ c = N + 1 := by simpa using hcm
          rcases e' with z | z | z | z | z
          · rw [z]; exact ⟨_, z1, fun v q => nomatch q⟩
          · rw [z]; exact ⟨_, z2, fun v q => nomatch q⟩
          · rw [z]; exact ⟨_, z3, fun v q => nomatch q⟩
          · rw [z]; exact kd.live i _ h z4
          · rw [z]; exact kf.live i _ h z5
        · obtain ⟨z1, z2, ⟨a1, a2, z3⟩, z4, z5⟩ := st
          exact ⟨k _ (by simp) _ z1, k _ (by simp) _ z2, ⟨a1, a2, k _ (by simp) _ z3⟩, kd.keep i _ h h' z4 fun u hu => k _ (by simp) u hu, kf.keep i _ h h' z5 fun u hu => k _ (by simp) u hu⟩
        · exact wpAny_pyIter_zip st.1 hQ
        · obtain ⟨ga, gb⟩ := g'
          obtain ⟨its', rv', hc', hlt'⟩ := kd.cont Y pins' σ' H' s' hK I' ga
          obtain ⟨itf', rvf', hcf', hltf'⟩ := kf.cont Y pins' σ' H' s' hK I' gb
          have D := kd.draws Y.prog Y.w Y.A.in1 N its' (I'.ok.hd hcalm) (Nat.ne_of_lt hlt)
          have Df := kf.draws Y.prog Y.w Y.A.in1 (N + 1) itf' (I'.ok.hd hcalm) (Nat.ne_of_lt (Nat.lt_succ_of_lt hltf))
          have W := WalksT.zipD2 (A := Y.A) (zip_sep2 (N := N) (fp1 := [a]) (fp2 := [b]) (fun c hcm => by rw [List.mem_singleton.mp hcm]; exact hlt) (fun c hcm => by rw [List.mem_singleton.mp hcm]; exact hltf)) D Df
          rw [hP, hw] at W
          have e : (fun (i : Nat) (h : Heap) => IsZip h (N + 4) (N + 2) (N + 3) .none ∧ IsTupOf2 h (N + 2) (.ref N) (.ref (N + 1)) ∧ (∃ a1 a2, IsTupOf2 h (N + 3) a1 a2) ∧ (kd.S i N h ∧ kd.C its' h) ∧ (kf.S i (N + 1) h ∧ kf.C itf' h)) =
              fun i h => (IsZip h (N + 4) (N + 2) (N + 3) .none ∧ IsTupOf2 h (N + 2) (.ref N) (.ref (N + 1)) ∧ (∃ a1 a2, IsTupOf2 h (N + 3) a1 a2) ∧ kd.S i N h ∧ kf.S i (N + 1) h) ∧ kd.C its' h ∧ kf.C itf' h := by
            funext i h
            apply propext
            constructor
            · rintro ⟨z1, z2, z3, ⟨z4, z5⟩, z6, z7⟩
              exact ⟨⟨z1, z2, z3, z4, z6⟩, z5, z7⟩
            · rintro ⟨⟨z1, z2, z3, z4, z6⟩, z5, z7⟩
              exact ⟨z1, z2, z3, ⟨z4, z5⟩, z6, z7⟩
          rw [e, ← rv'.length, ← rvf'.length] at W
          refine ⟨_, _, _, fun h => kd.C its' h ∧ kf.C itf' h, W, ⟨hc', hcf'⟩, ?_⟩
          · rintro i vals ⟨x, y, hx, hy, rfl⟩
            have hx' : its'[i]? = some x := hx
            have hy' : itf'[i]? = some y := hy
            have hl : i < xs.length := by rw [rv'.length]; exact (List.getElem?_eq_some_iff.mp hx').1
            have hl2 : i < ys.length := by rw [rvf'.length]; exact (List.getElem?_eq_some_iff.mp hy').1
            obtain ⟨u, hu, ru⟩ := rv'.get (List.getElem?_eq_getElem hl)
            obtain ⟨u2, hu2, ru2⟩ := rvf'.get (List.getElem?_eq_getElem hl2)
            rw [hx'] at hu
            rw [hy'] at hu2
            cases hu
            cases hu2
            exact ⟨[xs[i], ys[i]], .cons ru (.cons ru2 .nil), ⟨_, _, List.getElem?_eq_getElem hl, List.getElem?_eq_getElem hl2, rfl⟩, by show 2 ≤ sizeLine; decide⟩
        · have e' : c = N + 4 ∨ c = N + 2 ∨ c = N + 3 ∨ c = N ∨ c = N + 1 := by simpa using hcm
          have hle : s1.heap.objs.size ≤ c := by
            rw [hN]
            rcases e' with z | z | z | z | z <;> rw [z] <;> first | exact Nat.le_add_right _ _ | exact Nat.le_refl _
          exact I1.fpOk hle (I1.hok.fresh hle)
      rcases hq with ⟨g, gf, q⟩ | ⟨g, gf, q⟩ | ⟨g, gf, q⟩ | ⟨g, gf, q⟩
      · exact go (kdL X.K a xs) (kdL X.K b ys) g gf q
      · exact go (kdL X.K a xs) (kdT X.K b ys) g gf q
      · exact go (kdT X.K a xs) (kdL X.K b ys) g gf q
      · exact go (kdT X.K a xs) (kdT X.K b ys) g gf q
end L3

/-! repr of data; defs called where no repr is under way. -/
namespace L3
open PySem PySem.Spec PyProof.Rows L2
section
variable {prog : Program} {w : World} {A : Around} {E : Value → Shared → Prop} {s : Shared}
/-- repr(v), v told by what it reads as -/
theorem repr_reads : ∀ {v : Value} {d : PyData} {as : List Addr} {Q : Value → Shared → Prop}, Reads s.heap v d as → d.hasDict = false → d.showable = true → A.guards = some [] → A.units + 1 + d.depth < cLine → d.shown.length ≤ sizeLine →
    (∀ h' tk u, (∀ b o, s.heap.get? b = some o → h'.get? b = some o) → Q (.str d.shown u) { s with heap := h', toks := tk }) → wpAny (model prog w) A (call (.builtin "repr") [v]) Q E s
  | _, _, _, Q, .none, _, _, _, _, _, hQ => PySem.P.repr_of_none (by simpa only [PyData.shown] using hQ s.heap _ _ fun _ _ e => e)
  | _, _, _, Q, .bool b, _, _, _, _, _, hQ => PySem.P.repr_of_bool (by simpa only [PyData.shown] using hQ s.heap _ _ fun _ _ e => e)
  | _, _, _, Q, .int i t, _, hs, _, _, _, hQ => PySem.P.repr_of_int (by simpa [PyData.showable] using hs) (by simpa only [PyData.shown] using hQ s.heap _ _ fun _ _ e => e)
  | _, _, _, Q, .str x t, _, _, _, _, hz, hQ => PySem.P.repr_of_str (by simpa only [PyData.shown] using hQ s.heap _ _ fun _ _ e => e) (by simpa only [PyData.shown] using hz)
  | _, _, _, Q, .list (a := a) (vs := vs) (xs := xs) h1 h2 h3 h4, hd, hs, hg, hu, hz, hQ => by
    have hz2 : (listText (PyData.shownAll xs)).length ≤ sizeLine := by simpa only [PyData.shown] using hz
    have hd2 : PyData.hasDictAll xs = false := by simpa only [PyData.hasDict] using hd
    obtain ⟨bs, hb, hk⟩ := ReprAllK.of_readsAll (prog := prog) (w := w) h4 (by simpa [PyData.showable] using hs) (fun hx => by rw [hd2] at hx; cases hx) (fun t ht => Nat.le_trans (listText_mem_le ht) hz2)
    have r : Reads s.heap (.ref a) (.list xs) _ := .list h1 h2 h3 h4
    have hna : a ∉ bs := not_mem_of_deeper r (by simp only [PyData.depth]; omega) hb
    simp only [PyData.depth] at hu
    simp only [PyData.shown] at hQ
    have hTy : s.TypeIs (.ref a) "list" := ⟨_, h1, h2⟩
    refine PySem.call_repr_slot (by omega) hTy F.slot_list_repr.toG ?_
    obtain ⟨l⟩ := vs
    cases l with
    | nil =>
      have h5 : ReadsAll s.heap [] xs _ := h4
      cases h5
      simp only [PyData.shownAll, listText_nil] at hQ
      exact call_list_repr_empty hTy h1 h3 ⟨_, _, rfl, hQ s.heap _ _ fun _ _ e => e⟩
    | cons x l =>
      exact call_list_reprK h1 h2 h3 hna (by simpa using hk.length_eq) (fun i y e => hk.item i y (by simpa using e)) hg (fun b _ => Clear.nil b) (by show A.units + 1 + _ < _; omega) (fun _ _ e => e) (fun h' u tk hk2 => ⟨_, _, rfl, hQ h' tk u hk2⟩) hz2
  | _, _, _, Q, .tuple (a := a) (xs := xs) h1 h2 h3 h4, hd, hs, hg, hu, hz, hQ => by
    have hz2 : (tupleText (PyData.shownAll xs)).length ≤ sizeLine := by simpa only [PyData.shown] using hz
    have hd2 : PyData.hasDictAll xs = false := by simpa only [PyData.hasDict] using hd
    obtain ⟨bs, hb, hk⟩ := ReprAllK.of_readsAll (prog := prog) (w := w) h4 (by simpa [PyData.showable] using hs) (fun hx => by rw [hd2] at hx; cases hx) (fun t ht => Nat.le_trans (tupleText_mem_le ht) hz2)
    have r : Reads s.heap (.ref a) (.tuple xs) _ := .tuple h1 h2 h3 h4
    have hna : a ∉ bs := not_mem_of_deeper r (by simp only [PyData.depth]; omega) hb
    simp only [PyData.depth] at hu
    simp only [PyData.shown] at hQ
    have hTy : s.TypeIs (.ref a) "tuple" := ⟨_, h1, h2⟩
    refine PySem.call_repr_slot (by omega) hTy F.slot_tuple_repr ?_
    exact call_tuple_reprK h1 h2 h3 hna hk hg (fun b _ => Clear.nil b) (by show A.units + 1 + _ < _; omega) (fun _ _ e => e) (fun h' u tk hk2 => ⟨_, _, rfl, hQ h' tk u hk2⟩) hz2
  | _, _, _, _, .dict _ _ _ _ _, hd, _, _, _, _, _ => by simp only [PyData.hasDict] at hd; cases hd
end
mutual
theorem dp_nodict {K : PySem.W.Frag} {H : Hp} : ∀ {v : V} {d : PyData}, Dp K H v d → d.hasDict = false
  | _, _, .non => by simp only [PyData.hasDict]
  | _, _, .bl _ => by simp only [PyData.hasDict]
  | _, _, .int _ => by simp only [PyData.hasDict]
  | _, _, .str _ => by simp only [PyData.hasDict]
  | _, _, .lst _ ha => by simp only [PyData.hasDict]; exact dps_nodict ha
  | _, _, .tup _ ha => by simp only [PyData.hasDict]; exact dps_nodict ha
theorem dps_nodict {K : PySem.W.Frag} {H : Hp} : ∀ {vs : List V} {ds : List PyData}, DpAll K H vs ds → PyData.hasDictAll ds = false
  | _, _, .nil => by simp only [PyData.hasDictAll]
  | _, _, .cons h hs => by simp only [PyData.hasDictAll, dp_nodict h, dps_nodict hs, Bool.or_false]
end
def rRepr (K : PySem.W.Frag) : List V → Hp → VK → Prop := fun xs H Q => ∃ x d, xs = [x] ∧ Dp K H x d ∧ d.showable = true ∧ d.depth ≤ 60 ∧ d.shown.length ≤ sizeLine ∧ Q (.str d.shown) H
theorem call_reprD {X : Cx} (hg : X.A.guards = some []) (hu : X.A.units + 64 < cLine) : CallR X (.builtin "repr") (rRepr X.K) := by
  intro pins s σ H xs us Q I r h
  obtain ⟨x, d, rfl, hd, hs, hdp, hz, q⟩ := h
  obtain ⟨u, rfl, ru⟩ := vals1 r
  obtain ⟨as, hr⟩ := Dp.reads I d x u hd ru
  exact repr_reads hr (dp_nodict hd) hs hg (by omega) hz fun h' tk t hk => ⟨.str _, H, I.kept hk, ⟨_, rfl⟩, q⟩
end L3
namespace L3
open PySem PySem.Spec PyProof.Rows L2
/-- as L2.FnOk, called where no repr is under way -/
structure FnG (P : Program) (w : World) (K : PySem.W.Frag) (mg : Str → Option Value) (base : Heap) (CX : CXT) (k : Nat) (f : Addr) (fd : FuncData) (ps : List Str) (sp : Sp) : Prop where
  len : ∀ vs H Q E, sp vs H Q E → vs.length = ps.length
  run : ∀ (A : Around) (outer : List Env) (s : Shared) (H : Hp) (args : Args) (us : List Value) (vs : List V) (Q : VK) (E : XK), A.guards = some [] → Room k A → Env0 P w K mg base A outer s H → BindsTo s fd args (ps.zip us) → Vals vs us → sp vs H Q E →
    codeAny (model P w) A (.call (.ref f) args) (CR CX outer P w H s Q E) s
section
variable {P : Program} {w : World} {K : PySem.W.Frag} {mg : Str → Option Value} {base : Heap} {CX : CXT}
theorem FnG.mono {j k : Nat} {f : Addr} {fd : FuncData} {ps : List Str} {sp : Sp} (F : FnG P w K mg base CX j f fd ps sp) (h : j ≤ k) : FnG P w K mg base CX k f fd ps sp :=
  ⟨F.len, fun A outer s H args us vs Q E hg hr e0 hb r q => F.run A outer s H args us vs Q E hg (hr.mono h) e0 hb r q⟩
theorem FnG.imp {k : Nat} {f : Addr} {fd : FuncData} {ps : List Str} {sp sp2 : Sp} (F : FnG P w K mg base CX k f fd ps sp) (h : ∀ vs H Q E, sp2 vs H Q E → sp vs H Q E) : FnG P w K mg base CX k f fd ps sp2 :=
  ⟨fun vs H Q E q => F.len vs H Q E (h _ _ _ _ q), fun A outer s H args us vs Q E hg hr e0 hb r q => F.run A outer s H args us vs Q E hg hr e0 hb r (h _ _ _ _ q)⟩
theorem fnG_of_ok {k : Nat} {f : Addr} {fd : FuncData} {ps : List Str} {sp : Sp} (F : FnOk P w K mg base CX k f fd ps sp) : FnG P w K mg base CX k f fd ps sp :=
  ⟨F.len, fun A outer s H args us vs Q E _ hr e0 hb r q => F.run A outer s H args us vs Q E hr e0 hb r q⟩
/-- a def by its body -/
theorem fnG_of {k : Nat} {f : Addr} {name qual : Str} {params : Arguments} {body : List Stmt} {scope : Scope} {dV kV doc pm cdv ct oc : Value} {an od : Option Addr}
    {osl : Array (Option Value)} {N ps : List Str} {sp : Sp} (look : K.lookup f = some ⟨oc, od, .func (PySem.W.fnOf name qual params body scope dV kV doc pm an cdv ct), osl⟩) (hcode : PySem.W.codeIn K cdv qual = true) (sc : FnScope N ps scope)
    (hlen : ∀ vs H Q E, sp vs H Q E → vs.length = ps.length)
    (hbody : ∀ (A : Around) (outer : List Env) (s : Shared) (H : Hp) (vs : List V) (Q : VK) (E : XK), A.guards = some [] → Room k (A.deeper (envOfC qual scope s.heap.objs.size f cdv)) → sp vs H Q E →
      ∃ t, PSs (cxOf CX P w K mg base N qual scope f cdv A outer s H E) body t ∧ t { nx := fun _ H1 => Q .non H1, rt := Q } (start N vs) H) :
    FnG P w K mg base CX (k + 1) f (PySem.W.fnOf name qual params body scope dV kV doc pm an cdv ct) ps sp := by
  refine ⟨hlen, fun A outer s H args us vs Q E hg hr e0 hb r hsp => ?_⟩
  have inK : K.In s.heap := e0.mod.kin.keeps fun b u q => (e0.bs b u q).1
  have noL : s.heap.NoLimit := e0.mod.nolimit.keeps fun b u q => (e0.bs b u q).1
  have kinds : ∀ y ∈ ps.zip us, scope.names.lookup y.1 = some .local ∨ (scope.names.lookup y.1 = some .cell ∧ ((cellsFrom (s.heap.objs.size + 1) scope.names []).lookup y.1).isSome = true) := by
    rintro ⟨n, v⟩ hy
    cases sc.par n (List.of_mem_zip hy).1 with
    | inl z => exact .inl z
    | inr z => exact .inr ⟨z, PySem.W.cellsFrom_some _ _ _ (.inl z)⟩
  refine codeAny_call_function hr.depth (inK _ _ look) rfl sc.co sc.gen rfl (PySem.W.codeRec_of inK hcode) (hb _ _ _ _ (wpAny_newFunctionEnv_cells sc.kind kinds fun env henv s1 inc => ?_))
  subst henv
  obtain ⟨t, ht, hq⟩ := hbody A outer s H vs Q E hg (hr.deeper _) hsp
  have I := inv_start (CX := CX) (E := E) sc hr.hd e0 (hlen _ _ _ _ hsp) r inc
  have out : ∀ {τ : St} {H1 : Hp} {v : V} {u : Value} {s2 : Shared}, Inv (cxOf CX P w K mg base N qual scope f cdv A outer s H E) [] τ H1 s2 → RelV v u → Q v H1 → CE outer P w H s Q u s2 :=
    fun {τ H1 v u s2} J rv q => ⟨v, H1, J.os, J.bare, J.base, J.hok, rv, q⟩
  refine ⟨noL.keeps inc.toInCall.keep, codeAny_func (wpAny_mono (ht.run [] s1 (start N vs) H _ I hq) (fun fl s2 hs => ?_) fun _ _ z => z)⟩
  match fl, hs with
  | .ret u, ⟨v, τ, H1, J, rv, q⟩ => exact out J rv q
  | .next, ⟨τ, H1, J, q⟩ => exact out (v := V.non) (u := Value.none) J rfl q
  | .brk, ⟨_, _, _, q⟩ => exact q.elim
  | .cont, ⟨_, _, _, q⟩ => exact q.elim
theorem okG {x qual : Str} {st : Stmt} {f : Addr} {fd : FuncData} {N ps : List Str} {k : Nat} {sp : Sp} (F : Fun K x qual st f fd) (S : FnScope N ps (defScope st)) (hlen : ∀ vs H Q E, sp vs H Q E → vs.length = ps.length)
    (hbody : ∀ (cdv : Value) (A : Around) (outer : List Env) (s : Shared) (H : Hp) (vs : List V) (Q : VK) (E : XK), (A.deeper (envOfC qual (defScope st) s.heap.objs.size f cdv)).guards = some [] → Room k (A.deeper (envOfC qual (defScope st) s.heap.objs.size f cdv)) → sp vs H Q E →
      ∃ t, PSs (cxOf CX0 P w K mg base N qual (defScope st) f cdv A outer s H E).nox (defBody st) t ∧ t { nx := fun _ H1 => Q .non H1, rt := Q } (start N vs) H) : FnG P w K mg base CX0 (k + 1) f fd ps sp := by
  obtain ⟨oc, od, kV, doc, pm, an, cdv, ct, osl, rfl, lk, hcd⟩ := F.ex
  refine fnG_of lk hcd S hlen fun A outer s H vs Q E hg hr hsp => ?_
  obtain ⟨t, h, q⟩ := hbody cdv A outer s H vs Q E hg hr hsp
  exact ⟨t, h.nox, q⟩
end
section
variable {X : Cx} {CX : CXT} {j k n : Nat} {f C : Addr} {fd : FuncData} {ps ks : List Str} {sp : Sp} {E : XK} {x : Str} {p pos : Pos} {e : Expr} {es : List Expr} {t tk : TA} {kws : List Keyword}
theorem run_g {pins : List (Addr × Obj)} {σ : St} {H : Hp} {s : Shared} {Q : VK} {us us2 : List Value} {kw : List (Str × Value)} {vs : List V} (F : FnG X.prog X.w X.K X.mg X.base CX k f fd ps sp) (hg : X.A.guards = some []) (hr : Room k X.A) (hb : BindsTo s fd ⟨us, kw⟩ (ps.zip us2)) (hx : Passes CX X E)
    (I : Inv X pins σ H s) (r : Vals vs us2) (h : sp vs H Q E) : wpAny (model X.prog X.w) X.A (call (.ref f) us kw) (EP X pins σ Q) X.xe s := by
  refine wpAny_call (codeAny_mono (F.run X.A X.stack s H ⟨us, kw⟩ us2 vs Q E hg hr I.env0 hb r h) fun r2 s2 hq => ?_)
  match r2, hq with
  | .error e, hq => exact hx pins σ H s e s2 I hq
  | .ok (.ret u), hq => exact I.after hq
  | .ok .next, hq => exact hq.elim
  | .ok .brk, hq => exact hq.elim
  | .ok .cont, hq => exact hq.elim
/-- the module's name x is a def that keeps the promise sp -/
structure Cg (P : Program) (w : World) (K : PySem.W.Frag) (mg : Str → Option Value) (base : Heap) (CX : CXT) (k : Nat) (x : Str) (sp : Sp) : Prop where
  ex : ∃ (f : Addr) (fd : FuncData) (ps : List Str), FnG P w K mg base CX k f fd ps sp ∧ mg x = some (.ref f) ∧ PySem.W.keepIn K (.ref f) = true ∧ Binds K fd ps []
/-- the same called by keywords ks alone, in this order -/
structure Cgk (P : Program) (w : World) (K : PySem.W.Frag) (mg : Str → Option Value) (base : Heap) (CX : CXT) (k : Nat) (x : Str) (ks : List Str) (sp : Sp) : Prop where
  ex : ∃ (f : Addr) (fd : FuncData) (ps : List Str) (g : List Value → List Value) (gV : List V → List V) (sp0 : Sp), FnG P w K mg base CX k f fd ps sp0 ∧ mg x = some (.ref f) ∧ PySem.W.keepIn K (.ref f) = true ∧
    (∀ (s : Shared) (ws : List Value), K.In s.heap → ws.length = ks.length → BindsTo s fd ⟨[], ks.zip ws⟩ (ps.zip (g ws))) ∧ (∀ (zs : List V) (ws : List Value), zs.length = ks.length → Vals zs ws → Vals (gV zs) (g ws)) ∧
    ∀ zs H Q E, sp zs H Q E → zs.length = ks.length ∧ sp0 (gV zs) H Q E
theorem pe_cg (c : Cg X.prog X.w X.K X.mg X.base CX k x sp) (hgd : X.A.guards = some []) (hr : Room j X.A) (hk : k ≤ j) (hg : Gl X x) (hx : Passes CX X E) (ha : PA X (e :: es) t)
    (hdb : (x == ("__debug__" : Str)) = false := by decide) (he : starEach (e :: es) X.env = (false, eval e X.env) :: starEach es X.env := by rfl) (hpl : (backTo pos (starEach es X.env)).any (·.1) = false := by rfl) :
    PE X (.Call (.Name x p) (e :: es) [] pos) (tCall sp [] E t) := by
  obtain ⟨f, fd, ps, F, hm, kp, b⟩ := c.ex
  refine ⟨fun pins s σ H Q I h => ?_⟩
  refine Call_ (ld_glob I hg hm ?_ hdb)
  refine PySem.W.callWith_K (h₀ := X.base) I.ok.mod.kin kp ?_ he hpl
  refine thn (ha.run pos pins s σ H _ I h) fun us s1 ⟨vs, H1, I1, r, q⟩ => ⟨I1.kIn, ?_⟩
  have q2 : sp (vs ++ []) H1 Q E := q
  rw [List.append_nil] at q2
  have hb := b s1 us I1.kIn (by rw [List.append_nil, ← r.length]; exact F.len _ _ _ _ q2)
  rw [List.append_nil] at hb
  exact run_g F hgd (hr.mono hk) hb hx I1 r q2
theorem pe_cgk (c : Cgk X.prog X.w X.K X.mg X.base CX k x ks sp) (hgd : X.A.guards = some []) (hr : Room j X.A) (hk : k ≤ j) (hg : Gl X x) (hx : Passes CX X E) (hkw : PK X kws tk)
    (hall : (backToKw pos (keywordEach kws X.env)).all (·.1.isSome) = true := by rfl) (hks : (backToKw pos (keywordEach kws X.env)).filterMap (·.1) = ks := by rfl) (hdb : (x == ("__debug__" : Str)) = false := by decide)
    (hpl : ((backTo pos (starEach [] X.env)).any (·.1) || (backToKw pos (keywordEach kws X.env)).any (·.1.isNone)) = false := by rfl) :
    PE X (.Call (.Name x p) [] kws pos) (tCall sp [] E tk) := by
  obtain ⟨f, fd, ps, g, gV, sp0, F, hm, kp, to, rel, imp⟩ := c.ex
  refine ⟨fun pins s σ H Q I h => ?_⟩
  refine wpAny_Call_Name_kw (ld_glob I hg hm ?_ hdb)
  refine PySem.W.callWith_KW0 (h₀ := X.base) I.ok.mod.kin kp hall ?_ hpl
  refine thn (hkw.run pos pins s σ H _ I h) fun ws s1 ⟨zs, H1, I1, rz, q⟩ => ⟨I1.kIn, ?_⟩
  rw [hks]
  have q1 : sp (zs ++ []) H1 Q E := q
  rw [List.append_nil] at q1
  obtain ⟨hz, q2⟩ := imp _ _ _ _ q1
  exact run_g F hgd (hr.mono hk) (to s1 ws I1.kIn (by rw [← rz.length]; exact hz)) hx I1 (rel zs ws hz rz) q2
end
end L3

/-! the end of a law whose def is called where no repr is under way. -/
namespace L3
open PySem PySem.Spec PyProof.Rows L2
/-- the script's place in the abstract heap: nothing, or the locked list -/
def scriptH (a : Addr) (o : Obj) (ns : List Int) : Hp := fun b => if b = a then some (.frz o (.lst (ns.map V.int))) else none
theorem law_callG {P : Program} {w : World} {K : PySem.W.Frag} {mg mb : Str → Option Value} {k : Nat} {fa a : Addr} {fd : FuncData} {x : Str} {sp : Sp} {s1 : Shared} {vs : List Value} {ns : List Int}
    (inK : K.In s1.heap) (nsM : s1.heap.Ns mainGlobals mg) (nsB : s1.heap.Ns builtinsNs mb) (hmb : ∀ x : Str, x ≠ "__name__" → mb x = bootBuiltins x) (noL : s1.heap.NoLimit) (hgens : s1.gens = #[])
    (ha : s1.heap.get? a = some { cls := .type "list", data := .seq vs.toArray }) (hints : IntsAre vs ns) (hl : ns.length ≤ sizeLine) (room : Room k callerA)
    (F : ∀ base : Heap, K.In base → base.Ns mainGlobals mg → FnG P w K mg base CX0 k fa fd [x] sp) (hb : ∀ (s : Shared) (u : Value), BindsTo s fd ⟨[u], []⟩ [(x, u)])
    (hsp : ∀ H : Hp, SqL K H a (ns.map V.int) → (∀ b, H b ≠ none → b = a) → sp [.ref a] H (fun v _ => v = .bl true) fun _ _ _ => False) :
    codeAny (model P w) callerA (.call (.ref fa) ⟨[.ref a], []⟩) (fun r s2 => r = .ok (.ret (.bool true)) ∧ OldK s1.heap s2.heap ∧ s2.os = s1.os ∧ AllBare s2.gens) s1 := by
  have rel := vals_ints hints
  have len := hints.length
  suffices core : ∀ H : Hp, (∀ b, H b = none ∨ ∃ ob xs, H b = some (.frz ob (.lst xs))) → SqL K H a (ns.map V.int) → HOk P w H s1.heap → (∀ b, H b ≠ none → b = a) → (H a ≠ none → K.lookup a = none) →
      codeAny (model P w) callerA (.call (.ref fa) ⟨[.ref a], []⟩) (fun r s2 => r = .ok (.ret (.bool true)) ∧ OldK s1.heap s2.heap ∧ s2.os = s1.os ∧ AllBare s2.gens) s1 by
    by_cases hk : ∃ o, K.lookup a = some o
    · obtain ⟨o, hk⟩ := hk
      have same := inK a o hk
      rw [ha] at same
      cases same
      have tracked : SqL K (fun _ => none) a (ns.map V.int) := .inr ⟨_, vs.toArray, _, hk, rfl, rfl, rfl, by rw [List.size_toArray, len]; exact hl, by simpa using rel⟩
      exact core (fun _ => none) (fun _ => .inl rfl) tracked (fun b u z => by cases (show (none : Option HO) = some u from z)) (fun b z => (z rfl).elim) fun z => (z rfl).elim
    · have hk0 : K.lookup a = none := by
        cases h : K.lookup a with
        | none => rfl
        | some o => exact (hk ⟨o, h⟩).elim
      have at_a : scriptH a { cls := .type "list", data := .seq vs.toArray } ns a = some (.frz { cls := .type "list", data := .seq vs.toArray } (.lst (ns.map V.int))) := if_pos rfl
      have off : ∀ b, b ≠ a → scriptH a { cls := .type "list", data := .seq vs.toArray } ns b = none := fun b hne => if_neg hne
      refine core (scriptH a { cls := .type "list", data := .seq vs.toArray } ns) (fun b => ?_) (.inl (.inr ⟨_, at_a⟩)) (fun b u z => ?_) (fun b z => Decidable.byContradiction fun hne => z (off b hne)) fun _ => hk0
      · by_cases hne : b = a
        · exact .inr ⟨_, _, by rw [hne]; exact at_a⟩
        · exact .inl (off b hne)
      · by_cases hne : b = a
        · subst hne
          rw [at_a] at z
          cases z
          exact ⟨ha, by rw [List.length_map]; exact hl, vs, _, rel, ha⟩
        · rw [off b hne] at z
          cases z
  intro H only hS hok onlyA notK
  have lower : ∀ {b : Addr} {o : Obj}, s1.heap.get? b = some o → H b = none → (hidT s1.heap H).get? b = some o := fun q n => hidT_get q n
  have freeK : ∀ b o, K.lookup b = some o → H b = none := fun b o q => by
    cases h : H b with
    | none => rfl
    | some u =>
      have eb := onlyA b (by rw [h]; exact Option.some_ne_none u)
      subst eb
      rw [notK (by rw [h]; exact Option.some_ne_none u)] at q
      cases q
  have freeD : ∀ {b : Addr} {o : Obj} {es : Array DictEntry} {ep : Nat}, s1.heap.get? b = some o → o.data = .dict es ep → H b = none := fun {b o es ep} q d => by
    cases h : H b with
    | none => rfl
    | some u =>
      have eb := onlyA b (by rw [h]; exact Option.some_ne_none u)
      subst eb
      rw [ha] at q
      cases q
      cases (show Data.seq vs.toArray _ = Data.dict es ep from d)
  have lowerN : ∀ {b : Addr} {m : Str → Option Value}, s1.heap.Ns b m → (hidT s1.heap H).Ns b m := fun {b m} ⟨o, es, ep, q, d, r⟩ => ⟨o, es, ep, lower q (freeD q d), d, r⟩
  have inB : K.In (hidT s1.heap H) := fun b o q => lower (inK b o q) (freeK b o q)
  have mod : Mod K mg (hidT s1.heap H) := ⟨inB, lowerN nsM, ⟨mb, lowerN nsB, hmb⟩, let ⟨mc, q1, q2⟩ := noL; ⟨mc, lowerN q1, q2⟩⟩
  have start0 : Env0 P w K mg (hidT s1.heap H) callerA [] s1 H := ⟨rfl, mod, fun b o q => of_hidT q, Nat.le_of_eq (hidT_size _ _), trivial, fun b z => absurd (show b ∈ ([] : List Addr) from z) List.not_mem_nil, hok, .of_eq hgens⟩
  refine codeAny_mono ((F _ inB (lowerN nsM)).run callerA [] s1 H ⟨[.ref a], []⟩ [.ref a] [.ref a] _ _ rfl room start0 (hb s1 (.ref a)) (.cons rfl .nil) (hsp H hS onlyA)) fun r s2 hr => ?_
  match r, hr with
  | .error e, hr => exact hr.elim
  | .ok .next, hr => exact hr.elim
  | .ok .brk, hr => exact hr.elim
  | .ok .cont, hr => exact hr.elim
  | .ok (.ret u), hr =>
    obtain ⟨v, H2, os, bare, un, hok2, rv, q⟩ := hr
    have ev : v = .bl true := q
    subst ev
    cases (show u = Value.bool true from rv)
    refine ⟨rfl, OldK.of_keep fun b o q => ?_, os, bare⟩
    rcases only b with n | ⟨ob, xs, z⟩
    · exact un.keep b o q n (fun z => absurd (show b ∈ ([] : List Addr) from z) List.not_mem_nil) (fun z => absurd z List.not_mem_nil)
    · obtain ⟨q1, _⟩ := hok b _ z
      obtain ⟨q2, _⟩ := hok2 b _ (un.frzs b ob _ z)
      rw [q] at q1
      cases q1
      exact q2
/-- the end of a law row, from the promise of its def -/
theorem walk_ofG {l : PySem.W.OpenLaw} {n k : Nat} {q : Program} {loose : List Str} {XP : (Str → Option Value) → Heap → Prop} {YP : World → Heap → Prop} {d : DefRec} {K : Params → PySem.W.Frag} {sp : PySem.W.Frag → Sp} {x : Str}
    (hn : l.most = some n) (hn2 : n ≤ sizeLine) (hdf : d.params.defaults = []) (hr : Room k callerA)
    (hY : ∀ (w : World) (h : Heap), YP w h → (K w.params).In h)
    (F : ∀ (w : World) (mg : Str → Option Value) (fa : Addr) (h : Heap), (K w.params).In h → h.Ns mainGlobals mg → mg d.name = some (.ref fa) →
      ∃ fd : FuncData, (∀ (s : Shared) (u : Value), BindsTo s fd ⟨[u], []⟩ [(x, u)]) ∧ ∀ base : Heap, (K w.params).In base → base.Ns mainGlobals mg → FnG l.prog w (K w.params) mg base CX0 k fa fd [x] (sp (K w.params)))
    (hsp : ∀ (K : PySem.W.Frag) (H : Hp) (a : Addr) (ns : List Int), ns.length ≤ n → SqL K H a (ns.map V.int) → (∀ b, H b ≠ none → b = a) → sp K [.ref a] H (fun v _ => v = .bl true) fun _ _ _ => False) :
    PySem.W.WalkO q loose XP YP l.row.toRowW d [] (fun f vs => PySem.call f vs) := by
  refine Att.attach_call hn hdf fun w s0 s1 mg mb fa o pm cd doc a vs ns G Y ho hd hcd hmg hobj hints hlen hg => ?_
  obtain ⟨fd, hb, hF⟩ := F w mg fa _ (hY w _ Y) G.T.g hmg
  exact law_callG (hY w _ Y) G.T.g G.T.b G.T.builtins G.T.nolimit hg hobj hints (Nat.le_trans hlen hn2) hr hF hb fun H hS hA => hsp _ H a ns hlen hS hA
end L3

/-! rules that serve several kinds of values at once. -/
namespace L3
open PySem PySem.Spec PyProof.Rows L2
section
variable {X : Cx}
/-- + of ints, tuples, lists, texts -/
def rAddA (K : PySem.W.Frag) : R2 := fun x y H Q => rI0 (fun i j => .int (i + j)) x y H Q ∨ rCatA K x y H Q ∨ rCat x y H Q ∨ (∃ i j, x = .str i ∧ y = .str j ∧ i.length + j.length ≤ sizeLine ∧ Q (.str (i ++ j)) H)
theorem oAdd : OpR X (binaryOp .Add) (rAddA X.K) := op_add.or (op_catA.or (op_cat.or op_add_str))
def rMulA (K : PySem.W.Frag) : R2 := fun x y H Q => rI CMul (fun i j => .int (i * j)) x y H Q ∨ rRepT K x y H Q
theorem oMul : OpR X (binaryOp .Mult) (rMulA X.K) := op_mul.or op_repT
theorem oSub : OpR X (binaryOp .Sub) (rI0 fun i j => .int (i - j)) := op_sub
theorem oFdiv : OpR X (binaryOp .FloorDiv) (rI CDiv fun i j => .int (i / j)) := op_fdiv
theorem oMod : OpR X (binaryOp .Mod) (rI (fun _ j => 0 < j) fun i j => .int (i % j)) := op_mod
theorem oPow : OpR X (binaryOp .Pow) (rI CPow fun i j => .int (i ^ j.toNat)) := op_pow
def rEqA (K : PySem.W.Frag) : R2 := fun x y H Q => rEq x y H Q ∨ rEqD K x y H Q
def rNeA (K : PySem.W.Frag) : R2 := fun x y H Q => rNe x y H Q ∨ rNeD K x y H Q
theorem oEq {k : Nat} (hr : Room k X.A) : OpR X (compareOp .Eq) (rEqA X.K) := op_eq.or (op_eqD hr.units)
theorem oNe {k : Nat} (hr : Room k X.A) : OpR X (compareOp .NotEq) (rNeA X.K) := op_ne.or (op_neD hr.units)
theorem oLt : OpR X (compareOp .Lt) (rI0 fun i j => .bl (decide (i < j))) := op_lt
theorem oLe : OpR X (compareOp .LtE) (rI0 fun i j => .bl (decide (i ≤ j))) := op_le
theorem oGt : OpR X (compareOp .Gt) (rI0 fun i j => .bl (decide (j < i))) := op_gt
theorem oGe : OpR X (compareOp .GtE) (rI0 fun i j => .bl (decide (j ≤ i))) := op_ge
def rIsNone : R2 := fun x y H Q => y = .non ∧ Q (.bl (decide (x = .non))) H
def rIsNotNone : R2 := fun x y H Q => y = .non ∧ Q (.bl (!decide (x = .non))) H
theorem oIs : OpR X (compareOp .Is) rIsNone := op_isN
theorem oIsNot : OpR X (compareOp .IsNot) rIsNotNone := op_notN
def rInA (K : PySem.W.Frag) : R2 := fun x y H Q => rIn K false x y H Q ∨ rInD K x y H Q
def rNotInA (K : PySem.W.Frag) : R2 := fun x y H Q => rIn K true x y H Q ∨ rNotInD K x y H Q
theorem oIn {k : Nat} (hr : Room k X.A) : OpR X (compareOp .In) (rInA X.K) := op_in_seq.or (op_inD (by have := hr.un; omega))
theorem oNotIn {k : Nat} (hr : Room k X.A) : OpR X (compareOp .NotIn) (rNotInA X.K) := op_notIn_seq.or (op_notInD (by have := hr.un; omega))
def rNegI : V → Hp → VK → Prop := fun x H Q => ∃ i, x = .int i ∧ Q (.int (-i)) H
theorem oIx : IxR X (rIx X.K) := ix_seq
def rSlS (K : PySem.W.Frag) : V → Option Int → Option Int → Hp → VK → Prop := fun x lo hi H Q => rSlL K x lo hi H Q ∨ rSlA K x lo hi H Q
theorem oSl : SlR X (rSlS X.K) := sl_list.or sl_tupA
/-- what a for walks: a list, a tuple -/
def iSeq (K : PySem.W.Frag) (te : TE) : TI := fun σ H R => te σ H fun x H1 => ∃ a xs, x = .ref a ∧ ((SqL K H1 a xs ∧ R (Itl K a) H1) ∨ (SqT K H1 a xs ∧ R (Itt K a) H1))
theorem pi_seq {tg e : Expr} {te : TE} (he : PE X e te) : PI X tg e (iSeq X.K te) := by
  refine ⟨fun pins s σ H R I h => thn (he.run pins s σ H _ I h) ?_⟩
  rintro v s1 ⟨x, H1, I1, r1, a, xs, rfl, hq⟩
  cases r1
  have fresh1 : ∀ b ∈ [s1.heap.objs.size], FpOk X pins H1 b := fun b hb => by
    rw [List.mem_singleton.mp hb]
    exact I1.fpOk (Nat.le_refl _) (I1.hok.fresh (Nat.le_refl _))
  rcases hq with ⟨hl, q⟩ | ⟨ht, q⟩
  · obtain ⟨its, rv, p, _⟩ := I1.list hl
    exact wpAny_pyIter_list p.isList ⟨s1.heap.objs.size, [s1.heap.objs.size], _, _, H1, rfl, I1.kept (t' := s1.toks) fun b u z => Heap.get?_push_of_some _ z, turn_list a _, ⟨_, Heap.get?_push_size _ rfl, rfl, rfl⟩, fresh1, q⟩
  · obtain ⟨its, rv, p, _⟩ := I1.tuple ht
    exact wpAny_pyIter_tuple (show s1.heap.IsTuple a its.toArray from p) ⟨s1.heap.objs.size, [s1.heap.objs.size], _, _, H1, rfl, I1.kept (t' := s1.toks) fun b u z => Heap.get?_push_of_some _ z, turn_tuple a _, ⟨_, Heap.get?_push_size _ rfl, rfl, rfl⟩, fresh1, q⟩
/-- *e in a display, e a list or a tuple -/
def tStar (K : PySem.W.Frag) (te : TE) (tr : TA) : TA := fun σ H Q => te σ H fun x H1 => ∃ a xs, x = .ref a ∧ (SqT K H1 a xs ∨ SqL K H1 a xs) ∧ tr σ H1 fun ys H2 => Q (xs ++ ys) H2
theorem pa_star {e : Expr} {es : List Expr} {te : TE} {t : TA} {sp : Pos} (ha : PE X e te) (hr : PA X es t) : PA X (.Starred e sp :: es) (tStar X.K te t) := by
  refine ⟨fun pos pins s σ H Q I h => PySem.W.items_star (thn (ha.run pins s σ H _ I h) ?_)⟩
  rintro u s1 ⟨x, H1, I1, r1, a, xs, rfl, hq, q1⟩
  cases r1
  refine StX.star_any I1 hq fun us s2 I2 rv => thn (hr.run pos pins s2 σ H1 _ I2 q1) ?_
  rintro ws s3 ⟨ys, H2, I3, r2, q2⟩
  exact ⟨xs ++ ys, H2, I3, rv.append r2, q2⟩
/-- t.count(k), t a tuple of ints -/
def rCntT (K : PySem.W.Frag) : V → List V → Hp → VK → Prop := fun x xs H Q => ∃ (p : Addr) (ns : List Int) (k : Int), x = .ref p ∧ xs = [.int k] ∧ SqT K H p (ns.map V.int) ∧ Q (.int (ns.count k : Nat)) H
theorem mt_tcount : MtR X "tuple.count" (rCntT X.K) := by
  rintro pins s σ H x xs v us Q I rx rxs ⟨p, ns, k, rfl, rfl, hs, q⟩
  cases rx
  obtain ⟨u, rfl, t, rfl⟩ := rxs.one
  obtain ⟨its, rv, ⟨⟨cls, dd, data, sl⟩, ho, hc, n, hd⟩, _⟩ := I.tuple hs
  cases (show cls = .type "tuple" from hc)
  cases (show data = .seq its.toArray n from hd)
  have hin := ints_of_vals rv
  refine call_meets PySem.F.slot_tuple_count ⟨_, ho, rfl⟩ PySem.F.entry_tuple_count (PySem.F.args_tuple_count_2 _ _) (SeqAt.tuple_countAt p its.toArray n dd sl (.int k t) (eqk k))
    ⟨ho, fun y hy => (eqk_gives hin y (by simpa using hy)).at _ _, .int (ns.count k : Nat), H, I.tok _, ⟨s.toks, ?_⟩, q⟩
  have ec : its.toArray.toList.countP (eqk k) = ns.count k := eqk_count hin
  show Value.int ((its.toArray.toList.countP (eqk k) : Nat) : Int) s.toks = _
  rw [ec]
/-- max, min of two ints or of a list of ints -/
def rMaxA (K : PySem.W.Frag) : List V → Hp → VK → Prop := fun xs H Q => (∃ i j, xs = [.int i, .int j] ∧ Q (.int (if j > i then j else i)) H) ∨ rMax K xs H Q
theorem call_maxA (hc : X.calm = true) : CallR X (.builtin "max") (rMaxA X.K) := (call_max2 hc).or (cr_max hc)
def rMinA (K : PySem.W.Frag) : List V → Hp → VK → Prop := fun xs H Q => (∃ i j, xs = [.int i, .int j] ∧ Q (.int (if j < i then j else i)) H) ∨ rMin K xs H Q
theorem call_minA (hc : X.calm = true) : CallR X (.builtin "min") (rMinA X.K) := (call_min2 hc).or (cr_min hc)
/-- a op= b, by values -/
theorem ipAdd : PIp X .Add (rI0 fun i j => .int (i + j)) := fun pins s σ H x y v u Q I rx ry h => by
  obtain ⟨i, j, rfl, rfl, q⟩ := h
  obtain ⟨t, rfl⟩ := rx
  obtain ⟨t2, rfl⟩ := ry
  exact PyProof.Rows.iadd_int ⟨.int _, H, I.tok _, ⟨_, rfl⟩, q⟩
theorem ipSub : PIp X .Sub (rI0 fun i j => .int (i - j)) := fun pins s σ H x y v u Q I rx ry h => by
  obtain ⟨i, j, rfl, rfl, q⟩ := h
  obtain ⟨t, rfl⟩ := rx
  obtain ⟨t2, rfl⟩ := ry
  exact PyProof.Rows.isub_int ⟨.int _, H, I.tok _, ⟨_, rfl⟩, q⟩
theorem ipMul : PIp X .Mult (rI CMul fun i j => .int (i * j)) := fun pins s σ H x y v u Q I rx ry h => by
  obtain ⟨i, j, rfl, rfl, hc, q⟩ := h
  obtain ⟨t, rfl⟩ := rx
  obtain ⟨t2, rfl⟩ := ry
  exact PyProof.Rows.imul_int ⟨.int _, H, I.tok _, ⟨_, rfl⟩, q⟩ hc.ok
theorem ipFdiv : PIp X .FloorDiv (rI CDiv fun i j => .int (i / j)) := fun pins s σ H x y v u Q I rx ry h => by
  obtain ⟨i, j, rfl, rfl, ⟨h1, h2⟩, q⟩ := h
  obtain ⟨t, rfl⟩ := rx
  obtain ⟨t2, rfl⟩ := ry
  exact PyProof.Rows.ifloordiv_int (by omega) ⟨.int _, H, I.tok _, ⟨_, rfl⟩, by rw [Int.fdiv_eq_ediv_of_nonneg i (by omega)]; exact q⟩ (.inl (PyProof.noPylong_small (by omega)))
theorem ipMod : PIp X .Mod (rI (fun _ j => 0 < j) fun i j => .int (i % j)) := fun pins s σ H x y v u Q I rx ry h => by
  obtain ⟨i, j, rfl, rfl, h1, q⟩ := h
  obtain ⟨t, rfl⟩ := rx
  obtain ⟨t2, rfl⟩ := ry
  exact PyProof.Rows.imod_int (by omega) ⟨.int _, H, I.tok _, ⟨_, rfl⟩, by rw [Int.fmod_eq_emod_of_nonneg i (by omega)]; exact q⟩
/-! ### the same with the written part named (a comprehension's block keeps it) -/
variable {K : PySem.W.Frag}
theorem kAdd (hK : X.K = K := by rfl) : OpR X (binaryOp .Add) (rAddA K) := hK ▸ oAdd
theorem kMul (hK : X.K = K := by rfl) : OpR X (binaryOp .Mult) (rMulA K) := hK ▸ oMul
theorem kEq {k : Nat} (hr : Room k X.A) (hK : X.K = K := by rfl) : OpR X (compareOp .Eq) (rEqA K) := hK ▸ oEq hr
theorem kNe {k : Nat} (hr : Room k X.A) (hK : X.K = K := by rfl) : OpR X (compareOp .NotEq) (rNeA K) := hK ▸ oNe hr
theorem kIn {k : Nat} (hr : Room k X.A) (hK : X.K = K := by rfl) : OpR X (compareOp .In) (rInA K) := hK ▸ oIn hr
theorem kNotIn {k : Nat} (hr : Room k X.A) (hK : X.K = K := by rfl) : OpR X (compareOp .NotIn) (rNotInA K) := hK ▸ oNotIn hr
theorem kIx (hK : X.K = K := by rfl) : IxR X (rIx K) := hK ▸ oIx
theorem kSl (hK : X.K = K := by rfl) : SlR X (rSlS K) := hK ▸ oSl
theorem pi_seqK {tg e : Expr} {te : TE} (he : PE X e te) (hK : X.K = K := by rfl) : PI X tg e (iSeq K te) := hK ▸ pi_seq he
theorem pa_starK {e : Expr} {es : List Expr} {te : TE} {t : TA} {sp : Pos} (ha : PE X e te) (hr : PA X es t) (hK : X.K = K := by rfl) : PA X (.Starred e sp :: es) (tStar K te t) := hK ▸ pa_star ha hr
theorem pg_tupK {es : List Expr} {k : Nat} {t : TGs} {n : Nat} {pos : Pos} (hc : X.calm = true) (h : PGs X es t) (hK : X.K = K := by rfl)
    (hn : (assignEach es X.env).length = n := by rfl) (hst : (assignEach es X.env).findIdx? (·.1) = none := by rfl) : PG X (.Tuple es k pos) (gTup K n t) := hK ▸ pg_tup hc h hn hst
theorem pi_enumK {e : Expr} {ta : TA} {p pos tpos : Pos} {elts : List Expr} {kk : Nat} (hg : Gl X "enumerate") (hm : X.mg "enumerate" = none) (ha : PA X [e] ta) (hK : X.K = K := by rfl) (hs : starEach [e] X.env = [(false, eval e X.env)] := by rfl) :
    PI X (.Tuple elts kk tpos) (.Call (.Name "enumerate" p) [e] [] pos) (iEnumS K ta) := hK ▸ pi_enumS hg hm ha hs
theorem pi_zipK {e e2 : Expr} {ta : TA} {p pos tpos : Pos} {elts : List Expr} {kk : Nat} (hg : Gl X "zip") (hm : X.mg "zip" = none) (ha : PA X [e, e2] ta) (hK : X.K = K := by rfl)
    (hs : starEach [e, e2] X.env = (false, eval e X.env) :: starEach [e2] X.env := by rfl) (hpl : (backTo pos (starEach [e2] X.env)).any (·.1) = false := by rfl) :
    PI X (.Tuple elts kk tpos) (.Call (.Name "zip" p) [e, e2] [] pos) (iZipS K ta) := hK ▸ pi_zipS hg hm ha hs hpl
def rLenA (K : PySem.W.Frag) : List V → Hp → VK → Prop := fun xs H Q => ∃ x n, xs = [x] ∧ LenV K x H n ∧ Q (.int n) H
theorem kLen (hK : X.K = K := by rfl) : CallR X (.builtin "len") (rLenA K) := hK ▸ call_len
theorem kMax (hc : X.calm = true) (hK : X.K = K := by rfl) : CallR X (.builtin "max") (rMaxA K) := hK ▸ call_maxA hc
theorem kMin (hc : X.calm = true) (hK : X.K = K := by rfl) : CallR X (.builtin "min") (rMinA K) := hK ▸ call_minA hc
theorem kSum (hc : X.calm = true) (hK : X.K = K := by rfl) : CallR X (.builtin "sum") (rSum K) := hK ▸ cr_sum hc
theorem kAny (hc : X.calm = true) (hK : X.K = K := by rfl) : CallR X (.builtin "any") (rAny K) := hK ▸ cr_any hc
theorem kAll (hc : X.calm = true) (hK : X.K = K := by rfl) : CallR X (.builtin "all") (rAll K) := hK ▸ cr_all hc
theorem kRepr {k : Nat} (hg : X.A.guards = some []) (hr : Room k X.A) (hK : X.K = K := by rfl) : CallR X (.builtin "repr") (rRepr K) := hK ▸ call_reprD hg hr.units
def rListA (K : PySem.W.Frag) : List V → Hp → VK → Prop := fun xs H Q => ∃ p ys, xs = [.ref p] ∧ (SqL K H p ys ∨ SqT K H p ys) ∧ ∀ l, H l = none → Q (.ref l) (upd H l (.lst ys))
theorem kList (hK : X.K = K := by rfl) : CallR X (.type "list") (rListA K) := hK ▸ call_list_of
def rTupA (K : PySem.W.Frag) : List V → Hp → VK → Prop := fun xs H Q => ∃ p ys, xs = [.ref p] ∧ ((SqL K H p ys ∧ ∀ l, H l = none → Q (.ref l) (upd H l (.tup ys))) ∨ (SqT K H p ys ∧ Q (.ref p) H))
theorem kTuple (hK : X.K = K := by rfl) : CallR X (.type "tuple") (rTupA K) := hK ▸ call_tuple_of
def rDivmod : List V → Hp → VK → Prop := fun xs H Q => ∃ i j, xs = [.int i, .int j] ∧ CDiv i j ∧ ∀ p, H p = none → Q (.ref p) (upd H p (.tup [.int (i / j), .int (i % j)]))
theorem kDivmod : CallR X (.builtin "divmod") rDivmod := call_divmod
def rInt1 : List V → Hp → VK → Prop := fun xs H Q => (∃ i, xs = [.int i] ∧ Q (.int i) H) ∨ ∃ k, xs = [.bl k] ∧ Q (.int (if k then 1 else 0)) H
theorem kInt : CallR X (.type "int") rInt1 := call_int1
theorem kTcount (hK : X.K = K := by rfl) : MtR X "tuple.count" (rCntT K) := hK ▸ mt_tcount
theorem bmK {e : Expr} {T : String} {r : V → List V → Hp → VK → Prop} {to : TE} {t : TA} (h : PE X e (tBM X.K T r to t)) (hK : X.K = K := by rfl) : PE X e (tBM K T r to t) := hK ▸ h
theorem bm0K {e : Expr} {T : String} {r : V → List V → Hp → VK → Prop} {to : TE} (h : PE X e (tBM0 X.K T r to)) (hK : X.K = K := by rfl) : PE X e (tBM0 K T r to) := hK ▸ h
def tTruth (K : PySem.W.Frag) (ta : TE) : TT := fun σ H Q => ta σ H fun x H1 => ∃ k, TruV K x H1 k ∧ Q k H1
theorem pt_truthK {a : Expr} {ta : TE} (ha : PE X a ta) (he : ∀ whole, isTrue a X.env whole = (do let v ← whole; standAt a.pos; holding [v] (truthy v))) (hK : X.K = K := by rfl) : PT X a (tTruth K ta) := hK ▸ pt_truth ha he
end
end L3

/-! tuples that are known to bear no dict: made by displays, by tuple(..), by * ; their methods. -/
namespace L3
open PySem PySem.Spec PyProof.Rows L2
/-- a tuple without a dict of its own -/
def NoD (o : Obj) : Prop := o.cls = .type "tuple" ∧ o.dict = none
def TupF (H : Hp) (p : Addr) (xs : List V) : Prop := ∃ o, NoD o ∧ H p = some (.frz o (.tup xs))
theorem TupF.sq {K : PySem.W.Frag} {H : Hp} {p : Addr} {xs : List V} (h : TupF H p xs) : SqT K H p xs := let ⟨o, _, e⟩ := h; .inl (.inr ⟨o, e⟩)
/-- a new tuple of the values xs -/
def NewT (xs : List V) (H : Hp) (Q : VK) : Prop := ∀ (p : Addr) (o : Obj), H p = none → NoD o → Q (.ref p) (upd H p (.frz o (.tup xs)))
section
variable {X : Cx} {pins : List (Addr × Obj)} {σ : St} {H : Hp} {s : Shared}
theorem newT_run {Q : VK} {xs : List V} {us : List Value} (I : Inv X pins σ H s) (r : Vals xs us) (hz : xs.length ≤ sizeLine) (q : NewT xs H Q) :
    EP X pins σ Q (.ref s.heap.objs.size) { s with heap := s.heap.push { cls := .type "tuple", data := .seq us.toArray } } := by
  have fr : H s.heap.objs.size = none := I.hok.fresh (Nat.le_refl _)
  refine ⟨.ref s.heap.objs.size, upd H s.heap.objs.size (.frz { cls := .type "tuple", data := .seq us.toArray } (.tup xs)), I.laid (t' := s.toks) (fun b u z => Heap.get?_push_of_some _ z) (Nat.le_refl _) ?_, rfl, q _ _ fr ⟨rfl, rfl⟩⟩
  exact ⟨Heap.get?_push_size _ rfl, hz, us, r, _, Heap.get?_push_size _ rfl, rfl, _, rfl⟩
/-- (e, ..) -/
def tTupF (t : TA) : TE := fun σ H Q => t σ H fun xs H1 => xs.length ≤ sizeLine ∧ NewT xs H1 Q
theorem pe_tupF {es : List Expr} {t : TA} {x1 : Nat} {pos : Pos} (h : PA X es t) : PE X (.Tuple es x1 pos) (tTupF t) := by
  refine ⟨fun pins s σ H Q I hq => wpAny_Tuple_spliced (thn (h.run pos pins s σ H _ I hq) ?_)⟩
  rintro us s1 ⟨xs, H1, I1, r, z, q⟩
  exact ⟨by rw [← r.length]; exact z, newT_run I1 r z q⟩
/-- tuple(e), e a list or a tuple -/
def rTupF (K : PySem.W.Frag) : List V → Hp → VK → Prop := fun xs H Q => ∃ p ys, xs = [.ref p] ∧ ((SqL K H p ys ∧ NewT ys H Q) ∨ (SqT K H p ys ∧ Q (.ref p) H))
theorem call_tupleF : CallR X (.type "tuple") (rTupF X.K) := by
  rintro pins s σ H xs us Q I r ⟨p, ys, rfl, h⟩
  obtain ⟨u, rfl, rx⟩ := vals1 r
  cases rx
  rcases h with ⟨hq, q⟩ | ⟨hq, q⟩
  · obtain ⟨its, rv, pl, hz⟩ := I.list hq
    have hl := rv.length
    refine call_tuple_list pl.isList (fun h2 kp => ?_) (by rw [List.size_toArray]; omega)
    have I1 : Inv X pins σ H { s with heap := h2 } := I.kept (t' := s.toks) kp
    exact newT_run I1 rv hz q
  · obtain ⟨its, rv, pl, hz⟩ := I.tuple hq
    exact call_tuple_same pl ⟨.ref p, H, I, rfl, q⟩
/-- a method of a tuple -/
def tBMT (r : V → List V → Hp → VK → Prop) (to : TE) (t : TA) : TE := fun σ H Q => to σ H fun x H1 => (∃ p xs, x = .ref p ∧ TupF H1 p xs) ∧ t σ H1 fun xs H2 => r x xs H2 Q
theorem pe_bmT {o e : Expr} {es : List Expr} {to : TE} {t : TA} {name : Str} {apos cpos : Pos} {id : String} {r : V → List V → Hp → VK → Prop} (pa : PlainAttrs "tuple") (slot : Slot "tuple" name id) (hty : typeOf (.builtin id) = pure (.type "method_descriptor")) (hm : MtR X id r) (ho : PE X o to) (ha : PA X (e :: es) t)
    (hbase : attributeBase o name X.env (eval o X.env) = eval o X.env := by rfl)
    (hfew : ((backTo cpos (starEach (e :: es) X.env)).all (fun x => !x.1) && (backToKw cpos (keywordEach [] X.env)).all (fun x => x.1.isSome) && decide ((e :: es).length + ([] : List Keyword).length + (if ([] : List Keyword).isEmpty then 0 else 1) < 30)) = true := by rfl)
    (hline : (apos.endLine == cpos.line) = true := by rfl) (hst : starEach (e :: es) X.env = (false, eval e X.env) :: starEach es X.env := by rfl) (hpl : (backTo cpos (starEach es X.env)).any (·.1) = false := by rfl) :
    PE X (.Call (.Attribute o name apos) (e :: es) [] cpos) (tBMT r to t) := by
  refine ⟨fun pins s σ H Q I h => wpAny_Call_method_late hbase hfew hline rfl (thn (ho.run pins s σ H _ I h) ?_)⟩
  rintro v s1 ⟨x, H1, I1, r1, ⟨p, xs, rfl, ob, ⟨hc, hd⟩, hp⟩, q1⟩
  cases r1
  obtain ⟨g, _⟩ := I1.hok p _ hp
  refine ⟨"tuple", id, pa, slot, hty, ⟨ob, g, hc⟩, fun a ea => by cases ea; exact ⟨ob, g, hd⟩, ?_⟩
  have hA := ha.run cpos pins s1 σ H1 _ I1 q1
  rw [hst] at hA ⊢
  refine Calls.callWith_builtin (by show (false || (backTo cpos (starEach es X.env)).any (·.1)) = false; rw [hpl]; rfl) (Calls.evalArgs_plain (thn hA ?_))
  rintro us s2 ⟨vs, H2, I2, r2, q2⟩
  exact hm pins s2 σ H2 (.ref p) vs (.ref p) us Q I2 rfl r2 q2
/-! ### t * k -/
open AutoSeq1 (wpAny_loadPart')
theorem tup_mul_one (l : Addr) (items : Array Value) (n : Nat) (dd : Option Addr) (sl : Array (Option Value)) (u : Tok) :
    Meets (Builtin.«tuple.__mul__» ⟨[.ref l, .int 1 u], []⟩) (fun _ R s => s.heap.get? l = some { cls := .type "tuple", dict := dd, data := .seq items n, slots := sl } ∧ R (.ok (.ret (.ref l))) s) :=
  .of_wp fun prog w A R s hh => by
    obtain ⟨hp, g, d, tk, os⟩ := s
    obtain ⟨hl, hR⟩ := hh
    have f1 := AutoSeq1.idx_int
    wp_walk using wpAny_loadPart' hl
    repeat (first
      | (refine wpAny_ite_false (by decide) ?_; wp_walk using wpAny_loadPart' hl)
      | (refine wpAny_ite_true (by rw [show ((1 : Int) == 1) = true from rfl, Bool.or_true]) ?_; wp_walk using wpAny_loadPart' hl))
    exact ⟨_, rfl, hR⟩
theorem tup_mul_none (l : Addr) (items : Array Value) (n : Nat) (dd : Option Addr) (sl : Array (Option Value)) (x : Int) (u : Tok) (c0 : (decide (x < -(2 ^ 63)) || decide (x ≥ 2 ^ 63)) = false) (c1 : (items.isEmpty || x == 1) = false) (c2 : (decide (x ≤ 0) || items.isEmpty) = true) :
    Meets (Builtin.«tuple.__mul__» ⟨[.ref l, .int x u], []⟩) (fun _ R s => s.heap.get? l = some { cls := .type "tuple", dict := dd, data := .seq items n, slots := sl } ∧
      R (.ok (.ret (.ref s.heap.objs.size))) { s with heap := s.heap.push { cls := .type "tuple", data := .seq #[] }, toks := s.toks }) :=
  .of_wp fun prog w A R s hh => by
    obtain ⟨hp, g, d, tk, os⟩ := s
    obtain ⟨hl, hR⟩ := hh
    have f1 := AutoSeq1.idx_int
    wp_walk using wpAny_loadPart' hl
    repeat (first
      | (refine wpAny_ite_false (decide_eq_false (by rw [c0]; exact Bool.false_ne_true)) ?_; wp_walk using wpAny_loadPart' hl)
      | (refine wpAny_ite_false (decide_eq_false (by rw [c1]; exact Bool.false_ne_true)) ?_; wp_walk using wpAny_loadPart' hl)
      | (refine wpAny_ite_true (decide_eq_true c2) ?_; wp_walk using wpAny_loadPart' hl))
    exact ⟨_, rfl, hR⟩
def rRepF (K : PySem.W.Frag) : R2 := fun x y H Q => ∃ l k xs, x = .ref l ∧ y = .int k ∧ SqT K H l xs ∧ xs ≠ [] ∧ -1000 ≤ k ∧ k ≤ 1000 ∧ xs.length ≤ 1000 ∧ (k = 1 → Q (.ref l) H) ∧ (k ≠ 1 → NewT (List.replicate k.toNat xs).flatten H Q)
theorem op_repF : OpR X (binaryOp .Mult) (rRepF X.K) := by
  rintro pins s σ H x y v u Q I rx ry ⟨l, k, xs, rfl, rfl, hT, hne, h0, h1, hz, q1, q2⟩
  cases rx
  obtain ⟨t, rfl⟩ := ry
  obtain ⟨its, r, ⟨⟨cls, dd, data, sl⟩, ho, hc, n, hd⟩, _⟩ := I.tuple hT
  cases (show cls = .type "tuple" from hc)
  cases (show data = .seq its.toArray n from hd)
  have len : its.length = xs.length := r.length.symm
  have pos : 0 < its.length := by
    rw [len]
    exact List.length_pos_iff.mpr hne
  have ie : its.toArray.isEmpty = false := by
    cases its with
    | nil => exact absurd pos (Nat.lt_irrefl 0)
    | cons a b => rfl
  have small : (decide (k < -(2 ^ 63)) || decide (k ≥ 2 ^ 63)) = false := by rw [decide_eq_false (by omega), decide_eq_false (by omega)]; rfl
  refine wpAny_binaryOp_repeat_ref (T := "tuple") (U := "int") (by decide) ⟨_, ho, rfl⟩ (fun s2 => typeIs_int s2 k t) noFill_tuple_mul F.fills_int_mul F.slot_int_rmul repeat_tuple F.slot_int_index.lookup
    (call_meets F.slot_int_rmul (typeIs_int s k t) F.entry_int_rmul (F.args_int_rmul_2 _ _) (int_rmul_tuple k t l its.toArray n dd sl) ⟨ho, rfl, ⟨_, ho, rfl⟩, ?_⟩)
  by_cases hk : k = 1
  · subst hk
    exact call_meets F.slot_tuple_mul ⟨_, ho, rfl⟩ F.entry_tuple_mul (F.args_tuple_mul_2 _ _) (tup_mul_one l its.toArray n dd sl t) ⟨ho, .ref l, H, I, rfl, q1 rfl⟩
  have ne1 : (its.toArray.isEmpty || k == 1) = false := by
    rw [ie, Bool.false_or]
    exact beq_eq_false_iff_ne.mpr hk
  have flat : (List.replicate k.toNat its).flatten.length ≤ 1000 * 1000 := by
    rw [PyProof.Rows.lm_len_rep_flat, len]
    exact Nat.mul_le_mul (by omega) hz
  have flat2 : (List.replicate k.toNat xs).flatten.length ≤ sizeLine := by
    rw [PyProof.Rows.lm_len_rep_flat]
    exact Nat.le_trans (Nat.mul_le_mul (show k.toNat ≤ 1000 by omega) hz) (by decide)
  by_cases hp : k ≤ 0
  · refine call_meets F.slot_tuple_mul ⟨_, ho, rfl⟩ F.entry_tuple_mul (F.args_tuple_mul_2 _ _) (tup_mul_none l its.toArray n dd sl k t small ne1 (by rw [decide_eq_true hp]; rfl)) ⟨ho, ?_⟩
    have e0 : k.toNat = 0 := by omega
    have q3 := q2 hk
    rw [e0] at q3
    exact newT_run I .nil (Nat.zero_le _) q3
  · have sz : its.toArray.size = xs.length := by rw [List.size_toArray, len]
    have prod : ((its.toArray.size : Nat) : Int) * k ≤ 1000000 := by
      rw [sz]
      have a1 : ((xs.length : Nat) : Int) * k ≤ 1000 * k := Int.mul_le_mul_of_nonneg_right (by omega) (by omega)
      omega
    have few : Builtin.Tuple.tupleTooMany (((its.toArray.size : Nat) : Int) * k) = false := by
      unfold Builtin.Tuple.tupleTooMany
      rw [sizeLine_eq]
      exact decide_eq_false (by omega)
    refine call_meets F.slot_tuple_mul ⟨_, ho, rfl⟩ F.entry_tuple_mul (F.args_tuple_mul_2 _ _)
      (tuple_mulW l its.toArray n dd sl k t small ne1 (by rw [ie, Bool.or_false]; exact decide_eq_false hp) (by omega) few (by rw [size_rep, List.size_toArray]; exact Nat.le_trans flat (by decide))) ⟨ho, ?_⟩
    rw [size_rep]
    exact newT_run I (r.rep k.toNat) flat2 (q2 hk)
def rMulF (K : PySem.W.Frag) : R2 := fun x y H Q => rI CMul (fun i j => .int (i * j)) x y H Q ∨ rRepF K x y H Q
theorem kMulF {K : PySem.W.Frag} (hK : X.K = K := by rfl) : OpR X (binaryOp .Mult) (rMulF K) := hK ▸ op_mul.or op_repF
theorem kTupleF {K : PySem.W.Frag} (hK : X.K = K := by rfl) : CallR X (.type "tuple") (rTupF K) := hK ▸ call_tupleF
theorem pe_revK {K : PySem.W.Frag} {e : Expr} {te : TE} {k : Nat} {p1 p2 p3 pos : Pos} (he : PE X e te) (hK : X.K = K := by rfl) : PE X (.Subscript e (.Slice none none (some (.UnaryOp .USub (.Constant (.int 1) k p1) p2)) p3) pos) (tRevL K te) := hK ▸ pe_revL he
/-- a statement, then the rest, joined by a word of the state between them -/
def tJoin (t u : TS) : TS := fun D σ H => ∃ Mid : L2.St → Hp → Prop, t { D with nx := Mid } σ H ∧ ∀ τ G, Mid τ G → u D τ G
theorem pss_join {st : Stmt} {rest : List Stmt} {t u : TS} (h1 : PS X st t) (h2 : PSs X rest u) : PSs X (st :: rest) (tJoin t u) := by
  refine ⟨fun pins s σ H D I ⟨Mid, hm, hu⟩ => wpAny_execs_cons (thn (h1.run pins s σ H { D with nx := Mid } I hm) fun f s1 q => ?_)⟩
  match f, q with
  | .next, ⟨τ, G, J, q⟩ => exact h2.run pins s1 τ G D J (hu τ G q)
  | .ret v, q => exact q
  | .brk, q => exact q
  | .cont, q => exact q
/-- an expression whose ways are joined -/
def tJoinE (t : TE) : TE := fun σ H Q => ∃ Mid : VK, t σ H Mid ∧ ∀ v G, Mid v G → Q v G
theorem pe_join {e : Expr} {t : TE} (h : PE X e t) : PE X e (tJoinE t) := by
  refine ⟨fun pins s σ H Q I ⟨Mid, hm, hq⟩ => thn (h.run pins s σ H Mid I hm) ?_⟩
  rintro u s1 ⟨v, G, J, r, q⟩
  exact ⟨v, G, J, r, hq v G q⟩
end
end L3

/-! readings, step by step: I is what stays as it is, ps what is the def's own to change. -/
namespace L3
open PySem PySem.Spec PyProof.Rows L2
def Ex (I J : Hp) : Prop := ∀ a o, I a = some o → J a = some o
theorem Ex.refl (I : Hp) : Ex I I := fun _ _ h => h
theorem Ex.trans {I J L : Hp} (h : Ex I J) (k : Ex J L) : Ex I L := fun a o e => k a o (h a o e)
theorem Ex.back {I J L : Hp} (k : Ex J L) (h : Ex I J) : Ex I L := h.trans k
theorem Ex.new {I : Hp} {p : Addr} {o : HO} (h : I p = none) : Ex I (upd I p o) := fun a u e => by
  rw [upd_ne (ne_of_none e h)]
  exact e
abbrev PL := List (Addr × HO)
structure Own (I : Hp) (ps : PL) (H : Hp) : Prop where
  ex : Ex I H
  pr : ∀ p ∈ ps, H p.1 = some p.2 ∧ I p.1 = none
  nd : (ps.map Prod.fst).Nodup
/-! ### facts that stay -/
section
variable {K : PySem.W.Frag} {I J : Hp} {a : Addr} {xs : List V} {o : HO} {v : V} {d : PyData}
theorem At.up (e : Ex I J) (h : I a = some o) : J a = some o := e a o h
theorem Rd.up {u : HO} (e : Ex I J) (h : Rd I a u) : Rd J a u := by
  rcases h with h | ⟨o, h⟩
  · exact .inl (e _ _ h)
  · exact .inr ⟨o, e _ _ h⟩
theorem SqT.up (e : Ex I J) (h : SqT K I a xs) : SqT K J a xs := h.elim (fun h => .inl (Rd.up e h)) .inr
theorem SqL.up (e : Ex I J) (h : SqL K I a xs) : SqL K J a xs := h.elim (fun h => .inl (Rd.up e h)) .inr
theorem TupF.up (e : Ex I J) (h : TupF I a xs) : TupF J a xs := let ⟨o, n, q⟩ := h; ⟨o, n, e _ _ q⟩
mutual
theorem Dp.up (e : Ex I J) : ∀ {v : V} {d : PyData}, Dp K I v d → Dp K J v d
  | _, _, .non => .non
  | _, _, .bl b => .bl b
  | _, _, .int i => .int i
  | _, _, .str x => .str x
  | _, _, .lst h hs => .lst (SqL.up e h) (DpAll.up e hs)
  | _, _, .tup h hs => .tup (SqT.up e h) (DpAll.up e hs)
theorem DpAll.up (e : Ex I J) : ∀ {vs : List V} {ds : List PyData}, DpAll K I vs ds → DpAll K J vs ds
  | _, _, .nil => .nil
  | _, _, .cons h hs => .cons (Dp.up e h) (DpAll.up e hs)
end
theorem dpAll_ints : ∀ ns : List Int, DpAll K I (ns.map V.int) (ns.map PyData.int)
  | [] => .nil
  | n :: ns => .cons (.int n) (dpAll_ints ns)
theorem dp_ints {ns : List Int} (h : SqT K I a (ns.map V.int)) : Dp K I (.ref a) (.tuple (ns.map .int)) := .tup h (dpAll_ints ns)
end
/-! ### the state -/
section
variable {K : PySem.W.Frag} {I J H H2 : Hp} {ps qs : PL} {a p l : Addr} {xs : List V} {o u : HO} {v : V} {Q : VK}
theorem Own.sT (O : Own I ps H) (h : SqT K I a xs) : SqT K H a xs := SqT.up O.ex h
theorem Own.sL (O : Own I ps H) (h : SqL K I a xs) : SqL K H a xs := SqL.up O.ex h
theorem Own.dp {d : PyData} (O : Own I ps H) (h : Dp K I v d) : Dp K H v d := Dp.up O.ex h
theorem Own.at (O : Own I ps H) (h : I a = some o) : H a = some o := O.ex _ _ h
theorem Own.ix {i : Nat} (O : Own I ps H) (h : ps[i]? = some (l, o)) : H l = some o := (O.pr _ (List.mem_of_getElem? h)).1
theorem Own.none (O : Own I ps H) (h : H p = none) : I p = none := by
  cases q : I p with
  | none => rfl
  | some o => rw [O.ex _ _ q] at h; cases h
theorem Own.notin (O : Own I ps H) (h : H p = Option.none) : p ∉ ps.map Prod.fst := fun hm => by
  obtain ⟨q, hq, e⟩ := List.mem_map.mp hm
  have := (O.pr q hq).1
  rw [e, h] at this
  cases this
/-- the heap grows by what is of no matter -/
theorem Own.mono (O : Own I ps H) (e : Ex H H2) : Own I ps H2 := ⟨O.ex.trans e, fun p hp => ⟨e _ _ (O.pr p hp).1, (O.pr p hp).2⟩, O.nd⟩
theorem Own.skip (O : Own I ps H) (h : H p = Option.none) : Own I ps (upd H p o) := O.mono (Ex.new h)
/-- a new object that stays as it is -/
theorem Own.keep (O : Own I ps H) (h : H p = Option.none) : Own (upd I p o) ps (upd H p o) where
  ex := fun b w e => by
    by_cases hb : b = p
    · subst hb; rw [upd_same] at e ⊢; exact e
    · rw [upd_ne hb] at e ⊢; exact O.ex _ _ e
  pr := fun q hq => by
    have ne : q.1 ≠ p := ne_of_none (O.pr q hq).1 h
    rw [upd_ne ne, upd_ne ne]
    exact O.pr q hq
  nd := O.nd
/-- a new object of one's own -/
theorem Own.own (O : Own I ps H) (h : H p = Option.none) : Own I ((p, o) :: ps) (upd H p o) where
  ex := O.ex.trans (Ex.new h)
  pr := fun q hq => by
    rcases List.mem_cons.mp hq with rfl | hq
    · exact ⟨upd_same, O.none h⟩
    · rw [upd_ne (ne_of_none (O.pr q hq).1 h)]
      exact O.pr q hq
  nd := List.nodup_cons.mpr ⟨O.notin h, O.nd⟩
theorem nodup_inj {α β : Type} {f : α → β} : ∀ {l : List α} {i j : Nat} {x y : α}, (l.map f).Nodup → l[i]? = some x → l[j]? = some y → f x = f y → i = j := by
  intro l i j x y nd hi hj e
  have h1 := (List.getElem?_eq_some_iff.mp hi).1
  have h2 := (List.getElem?_eq_some_iff.mp hj).1
  have e1 : (l.map f)[i]'(by simpa using h1) = f x := by simp [(List.getElem?_eq_some_iff.mp hi).2]
  have e2 : (l.map f)[j]'(by simpa using h2) = f y := by simp [(List.getElem?_eq_some_iff.mp hj).2]
  exact (List.getElem_inj nd).mp (by rw [e1, e2, e])
/-- an own object changes -/
theorem Own.set {i : Nat} (O : Own I ps H) (h : ps[i]? = some (l, o)) : Own I (ps.set i (l, u)) (upd H l u) where
  ex := fun b w e => by
    have hn := (O.pr _ (List.mem_of_getElem? h)).2
    rw [upd_ne (ne_of_none e hn)]
    exact O.ex _ _ e
  pr := fun q hq => by
    obtain ⟨j, hj⟩ := List.getElem?_of_mem hq
    rw [List.getElem?_set] at hj
    by_cases hij : i = j
    · rw [if_pos hij] at hj
      split at hj
      · cases hj
        exact ⟨upd_same, (O.pr _ (List.mem_of_getElem? h)).2⟩
      · cases hj
    · rw [if_neg hij] at hj
      have ne : q.1 ≠ l := fun e => hij (nodup_inj O.nd h hj e.symm)
      rw [upd_ne ne]
      exact O.pr q (List.mem_of_getElem? hj)
  nd := by
    have e : (ps.set i (l, u)).map Prod.fst = ps.map Prod.fst := by
      rw [List.map_set]
      have h1 := (List.getElem?_eq_some_iff.mp h).1
      apply List.ext_getElem?
      intro j
      rw [List.getElem?_set]
      split
      · rename_i hij
        subst hij
        obtain ⟨h3, h4⟩ := List.getElem?_eq_some_iff.mp h
        simp [h3, h4]
      · rfl
    rw [e]
    exact O.nd
/-- an own object is changed no more -/
theorem Own.freeze (O : Own I ((p, o) :: ps) H) : Own (upd I p o) ps H where
  ex := fun b w e => by
    by_cases hb : b = p
    · subst hb
      rw [upd_same] at e
      cases e
      exact (O.pr _ List.mem_cons_self).1
    · rw [upd_ne hb] at e
      exact O.ex _ _ e
  pr := fun q hq => by
    have ne : q.1 ≠ p := fun e => (List.nodup_cons.mp O.nd).1 (by rw [← e]; exact List.mem_map.mpr ⟨q, hq, rfl⟩)
    rw [upd_ne ne]
    exact O.pr q (List.mem_cons_of_mem _ hq)
  nd := (List.nodup_cons.mp O.nd).2
theorem Own.exf (O : Own I ((p, o) :: ps) H) : Ex I (upd I p o) := Ex.new (O.pr _ List.mem_cons_self).2
theorem Own.drop (O : Own I ((p, o) :: ps) H) : Own I ps H := ⟨O.ex, fun q hq => O.pr q (List.mem_cons_of_mem _ hq), (List.nodup_cons.mp O.nd).2⟩
theorem Own.perm (O : Own I ps H) (h : qs.Perm ps) : Own I qs H := ⟨O.ex, fun q hq => O.pr q (h.mem_iff.mp hq), (h.map _).nodup_iff.mpr O.nd⟩
theorem own_start (H : Hp) : Own H [] H := ⟨Ex.refl H, fun _ h => absurd h List.not_mem_nil, List.nodup_nil⟩
end
/-! ### the same beside a deck: a list of a list of ints, an int, a count -/
/-- what a deck holds -/
def DkOk (n m k : Int) (cells : List Int) : Prop := 0 ≤ m ∧ m < 4294967296 ∧ 0 ≤ k ∧ k ≤ n ∧ cells.length ≤ 64
abbrev dkP (d c : Addr) (m k : Int) (cells : List Int) (ps : PL) : PL := (d, .lst [.ref c, .int m, .int k]) :: (c, .lst (cells.map V.int)) :: ps
inductive Kn where
  | own
  | deck (d : Addr) (n : Int)
def Sta : Kn → Hp → PL → Hp → Prop
  | .own, I, ps, H => Own I ps H
  | .deck d n, I, ps, H => ∃ (c : Addr) (m k : Int) (cells : List Int), DkOk n m k cells ∧ Own I (dkP d c m k cells ps) H
section
variable {K : PySem.W.Frag} {κ : Kn} {I J H H2 : Hp} {ps qs : PL} {a p l : Addr} {xs : List V} {o u : HO} {v : V} {Q : VK}
theorem Sta.ex : ∀ {κ : Kn}, Sta κ I ps H → Ex I H
  | .own, O => Own.ex O
  | .deck _ _, ⟨_, _, _, _, _, O⟩ => O.ex
theorem Sta.mono : ∀ {κ : Kn}, Sta κ I ps H → Ex H H2 → Sta κ I ps H2
  | .own, O, e => Own.mono O e
  | .deck _ _, ⟨c, m, k, cs, h, O⟩, e => ⟨c, m, k, cs, h, O.mono e⟩
theorem Sta.skip (O : Sta κ I ps H) (h : H p = none) : Sta κ I ps (upd H p o) := O.mono (Ex.new h)
theorem Sta.none (O : Sta κ I ps H) (h : H p = none) : I p = none := by
  cases q : I p with
  | none => rfl
  | some o => rw [O.ex _ _ q] at h; cases h
theorem Sta.keep : ∀ {κ : Kn}, Sta κ I ps H → H p = Option.none → Sta κ (upd I p o) ps (upd H p o)
  | .own, O, h => Own.keep O h
  | .deck _ _, ⟨c, m, k, cs, g, O⟩, h => ⟨c, m, k, cs, g, O.keep h⟩
theorem perm2 {α : Type} (x y z : α) (l : List α) : (x :: y :: z :: l).Perm (z :: x :: y :: l) := ((List.Perm.swap z y l).cons x).trans (List.Perm.swap z x (y :: l))
theorem Sta.own : ∀ {κ : Kn}, Sta κ I ps H → H p = Option.none → Sta κ I ((p, o) :: ps) (upd H p o)
  | .own, O, h => Own.own O h
  | .deck _ _, ⟨c, m, k, cs, g, O⟩, h => ⟨c, m, k, cs, g, (O.own h).perm (perm2 ..)⟩
theorem Sta.ix : ∀ {κ : Kn} {i : Nat}, Sta κ I ps H → ps[i]? = some (l, o) → H l = some o
  | .own, i, O, h => Own.ix (i := i) O h
  | .deck _ _, i, ⟨c, m, k, cs, g, O⟩, h => Own.ix (i := i + 2) O h
theorem Sta.set : ∀ {κ : Kn} {i : Nat}, Sta κ I ps H → ps[i]? = some (l, o) → Sta κ I (ps.set i (l, u)) (upd H l u)
  | .own, i, O, h => Own.set (i := i) O h
  | .deck _ _, i, ⟨c, m, k, cs, g, O⟩, h => ⟨c, m, k, cs, g, Own.set (i := i + 2) O h⟩
theorem Sta.freeze : ∀ {κ : Kn}, Sta κ I ((p, o) :: ps) H → Sta κ (upd I p o) ps H
  | .own, O => Own.freeze O
  | .deck _ _, ⟨c, m, k, cs, g, O⟩ => ⟨c, m, k, cs, g, Own.freeze (O.perm (perm2 ..).symm)⟩
theorem Sta.exf : ∀ {κ : Kn}, Sta κ I ((p, o) :: ps) H → Ex I (upd I p o)
  | .own, O => Own.exf O
  | .deck _ _, ⟨c, m, k, cs, g, O⟩ => Own.exf (O.perm (perm2 ..).symm)
theorem Sta.drop : ∀ {κ : Kn}, Sta κ I ((p, o) :: ps) H → Sta κ I ps H
  | .own, O => Own.drop O
  | .deck _ _, ⟨c, m, k, cs, g, O⟩ => ⟨c, m, k, cs, g, Own.drop (O.perm (perm2 ..).symm)⟩
theorem Sta.perm : ∀ {κ : Kn}, Sta κ I ps H → qs.Perm ps → Sta κ I qs H
  | .own, O, h => Own.perm O h
  | .deck _ _, ⟨c, m, k, cs, g, O⟩, h => ⟨c, m, k, cs, g, O.perm ((h.cons _).cons _)⟩
theorem Sta.up {d : Addr} {n n2 : Int} (O : Sta (.deck d n) I ps H) (h : n ≤ n2) : Sta (.deck d n2) I ps H := by
  obtain ⟨c, m, k, cs, ⟨g1, g2, g3, g4, g5⟩, O⟩ := O
  exact ⟨c, m, k, cs, ⟨g1, g2, g3, by omega, g5⟩, O⟩
theorem Own.back (O : Own J ps H) (e : Ex I J) : Own I ps H := ⟨e.trans O.ex, fun p hp => ⟨(O.pr p hp).1, by
  cases q : I p.1 with
  | none => rfl
  | some o =>
    have := (O.pr p hp).2
    rw [e _ _ q] at this
    cases this⟩, O.nd⟩
theorem Sta.back : ∀ {κ : Kn}, Sta κ J ps H → Ex I J → Sta κ I ps H
  | .own, O, e => Own.back O e
  | .deck _ _, ⟨c, m, k, cs, g, O⟩, e => ⟨c, m, k, cs, g, O.back e⟩
theorem Sta.sT (O : Sta κ I ps H) (h : SqT K I a xs) : SqT K H a xs := SqT.up O.ex h
theorem Sta.sL (O : Sta κ I ps H) (h : SqL K I a xs) : SqL K H a xs := SqL.up O.ex h
theorem Sta.pL {i : Nat} (O : Sta κ I ps H) (h : ps[i]? = some (l, .lst xs)) : SqL K H l xs := SqL.of (O.ix h)
/-- a new tuple, a new list, kept as they are -/
theorem Sta.newT (O : Sta κ I ps H) (k : ∀ p J H2, Sta κ J ps H2 → Ex I J → TupF J p xs → Q (.ref p) H2) : NewT xs H Q := fun p o hp nd =>
  k p _ _ (O.keep hp) (Ex.new (O.none hp)) ⟨o, nd, upd_same⟩
theorem Sta.newO (O : Sta κ I ps H) (k : ∀ p J H2, Sta κ J ps H2 → Ex I J → J p = some o → Q (.ref p) H2) : ∀ p, H p = Option.none → Q (.ref p) (upd H p o) := fun p hp =>
  k p _ _ (O.keep hp) (Ex.new (O.none hp)) upd_same
theorem Sta.newP (O : Sta κ I ps H) (k : ∀ p H2, Sta κ I ((p, o) :: ps) H2 → Q (.ref p) H2) : ∀ p, H p = Option.none → Q (.ref p) (upd H p o) := fun p hp => k p _ (O.own hp)
end
end L3

/-! the steps of readings. -/
namespace L3
open PySem PySem.Spec PyProof.Rows L2
section
variable {K : PySem.W.Frag} {κ : Kn} {I J H H1 H2 : Hp} {ps qs : PL} {a p l b : Addr} {xs ys : List V} {o u : HO} {v x y : V} {Q : VK} {σ σ2 : St} {D : Ends} {i j : Nat}
/-! statements -/
theorem r_seq {t1 t2 : TS} (h : t1 { D with nx := t2 D } σ H) : tSeq t1 t2 D σ H := h
theorem r_next (h : D.nx σ H) : tNext D σ H := h
theorem r_nx {f : St → Hp → Prop} {r : VK} {bk ct : St → Hp → Prop} (h : f σ H) : Ends.nx ⟨f, r, bk, ct⟩ σ H := h
theorem r_rt {f : St → Hp → Prop} {r : VK} {bk ct : St → Hp → Prop} (h : r v H) : Ends.rt ⟨f, r, bk, ct⟩ v H := h
theorem r_bk {f : St → Hp → Prop} {r : VK} {bk ct : St → Hp → Prop} (h : bk σ H) : Ends.bk ⟨f, r, bk, ct⟩ σ H := h
theorem r_ct {f : St → Hp → Prop} {r : VK} {bk ct : St → Hp → Prop} (h : ct σ H) : Ends.ct ⟨f, r, bk, ct⟩ σ H := h
theorem r_break (h : D.bk σ H) : tBreak D σ H := h
theorem r_cont (h : D.ct σ H) : tCont D σ H := h
theorem r_drop {te : TE} (h : te σ H fun _ H1 => D.nx σ H1) : tDrop te D σ H := h
theorem r_ret {te : TE} (h : te σ H D.rt) : tRet te D σ H := h
theorem r_retN (h : D.rt .non H) : tRetN D σ H := h
theorem r_ifs {c : TT} {t1 t2 : TS} (h : c σ H fun b H1 => if b = true then t1 D σ H1 else t2 D σ H1) : tIfS c t1 t2 D σ H := h
theorem r_asg {te : TE} {g : TG} (h : te σ H fun x H1 => g x σ H1 D.nx) : tAsg te g D σ H := h
theorem r_par {ta : TA} (h : ta σ H fun vs H1 => ∃ v w, vs = [v, w] ∧ D.nx ((σ.set i (some v)).set j (some w)) H1) : tPar i j ta D σ H := h
theorem r_par3 {ta : TA} {l : Nat} (h : ta σ H fun vs H1 => ∃ u v w, vs = [u, v, w] ∧ D.nx (((σ.set i (some u)).set j (some v)).set l (some w)) H1) : tPar3 i j l ta D σ H := h
theorem r_aug {te : TE} {ti : TIp} (hx : σ[i]? = some (some x)) (h : te σ H fun y H1 => ti x y H1 fun z H2 => D.nx (σ.set i (some z)) H2) : tAug i te ti D σ H := ⟨x, hx, h⟩
/-! targets -/
theorem r_gname {R : St → Hp → Prop} (e : σ.set i (some v) = σ2) (h : R σ2 H) : gName i v σ H R := by
  show R (σ.set i (some v)) H
  rw [e]
  exact h
theorem r_gnil {R : St → Hp → Prop} (h : R σ H) : gNil [] σ H R := ⟨rfl, h⟩
theorem r_gcons {R : St → Hp → Prop} {t : TG} {w : TGs} (h : t v σ H fun σ1 H1 => w xs σ1 H1 R) : gCons t w (v :: xs) σ H R := ⟨v, xs, rfl, h⟩
theorem r_gtup {R : St → Hp → Prop} {n : Nat} {t : TGs} (O : Sta κ I ps H) (h : SqT K I a xs) (hl : xs.length = n) (k : t xs σ H R) : gTup K n t (.ref a) σ H R := ⟨a, xs, rfl, O.sT h, hl, k⟩
/-! expressions -/
theorem r_var (h : σ[i]? = some (some v)) (k : Q v H) : tVar i σ H Q := ⟨v, h, k⟩
theorem r_c (k : Q v H) : tC v σ H Q := k
theorem r_op {r : R2} {ta tb : TE} (h : ta σ H fun x H1 => tb σ H1 fun y H2 => r x y H2 Q) : tOp r ta tb σ H Q := h
theorem r_un {r : V → Hp → VK → Prop} {ta : TE} (h : ta σ H fun x H1 => r x H1 Q) : tUn r ta σ H Q := h
theorem r_rU {g : Int → V} {i : Int} (k : Q (g i) H) : rU g (.int i) H Q := ⟨i, rfl, k⟩
theorem r_I0 {g : Int → Int → V} {i j : Int} (k : Q (g i j) H) : rI0 g (.int i) (.int j) H Q := ⟨i, j, rfl, rfl, k⟩
theorem r_I {C : Int → Int → Prop} {g : Int → Int → V} {i j : Int} (hc : C i j) (k : Q (g i j) H) : rI C g (.int i) (.int j) H Q := ⟨i, j, rfl, rfl, hc, k⟩
theorem r_addI {i j : Int} (k : Q (.int (i + j)) H) : rAddA K (.int i) (.int j) H Q := .inl ⟨i, j, rfl, rfl, k⟩
theorem r_mulI {i j : Int} (hc : CMul i j) (k : Q (.int (i * j)) H) : rMulF K (.int i) (.int j) H Q := .inl ⟨i, j, rfl, rfl, hc, k⟩
theorem r_addT (O : Sta κ I ps H) (ha : SqT K I a xs) (hb : SqT K I b ys) (hl : xs.length + ys.length ≤ sizeLine) (k : ∀ p J H2, Sta κ J ps H2 → Ex I J → SqT K J p (xs ++ ys) → Q (.ref p) H2) : rAddA K (.ref a) (.ref b) H Q := by
  refine .inr (.inl ⟨a, b, xs, ys, rfl, rfl, O.sT ha, O.sT hb, hl, fun e => ?_, fun _ e => ?_, fun _ _ => O.newO fun p J H2 O2 e h => k p J H2 O2 e (SqT.of h)⟩)
  · refine k b I H O (Ex.refl I) ?_
    rw [e]
    exact hb
  · refine k a I H O (Ex.refl I) ?_
    rw [e, List.append_nil]
    exact ha
theorem r_addLp (O : Sta κ I ps H) (ha : H a = some (.lst xs)) (hb : H b = some (.lst ys)) (hl : xs.length + ys.length ≤ sizeLine) (k : ∀ p J H2, Sta κ J ps H2 → Ex I J → J p = some (.lst (xs ++ ys)) → Q (.ref p) H2) : rAddA K (.ref a) (.ref b) H Q :=
  .inr (.inr (.inl ⟨a, b, xs, ys, rfl, rfl, ha, hb, hl, O.newO k⟩))
theorem r_repF {k : Int} (O : Sta κ I ps H) (ha : TupF I a xs) (hne : xs ≠ []) (h0 : -1000 ≤ k) (h1 : k ≤ 1000) (hl : xs.length ≤ 1000) (c : ∀ p J H2, Sta κ J ps H2 → Ex I J → TupF J p (List.replicate k.toNat xs).flatten → Q (.ref p) H2) : rMulF K (.ref a) (.int k) H Q := by
  refine .inr ⟨a, k, xs, rfl, rfl, O.sT ha.sq, hne, h0, h1, hl, fun e => ?_, fun _ => O.newT c⟩
  subst e
  refine c a I H O (Ex.refl I) ?_
  have : (List.replicate (1 : Int).toNat xs).flatten = xs := by simp
  rw [this]
  exact ha
theorem r_eqS (hs : scal x y = true) (k : Q (.bl (decide (x = y))) H) : rEqA K x y H Q := .inl ⟨hs, k⟩
theorem r_neS (hs : scal x y = true) (k : Q (.bl (!decide (x = y))) H) : rNeA K x y H Q := .inl ⟨hs, k⟩
theorem r_eqI {i j : Int} (k : Q (.bl (decide (i = j))) H) : rEqA K (.int i) (.int j) H Q := .inl ⟨rfl, by
  have e : decide (V.int i = V.int j) = decide (i = j) := by simp
  rw [e]; exact k⟩
theorem r_neI {i j : Int} (k : Q (.bl (!decide (i = j))) H) : rNeA K (.int i) (.int j) H Q := .inl ⟨rfl, by
  have e : decide (V.int i = V.int j) = decide (i = j) := by simp
  rw [e]; exact k⟩
theorem r_eqD {d e : PyData} (O : Sta κ I ps H) (hd : Dp K I x d) (he : Dp K I y e) (h1 : SeqAt.shaped d = true) (h2 : SeqAt.shaped e = true) (k : Q (.bl (PyData.eqv d e)) H) : rEqA K x y H Q := .inr ⟨d, e, Dp.up O.ex hd, Dp.up O.ex he, h1, h2, k⟩
theorem r_neD {d e : PyData} (O : Sta κ I ps H) (hd : Dp K I x d) (he : Dp K I y e) (h1 : SeqAt.shaped d = true) (h2 : SeqAt.shaped e = true) (k : Q (.bl (!PyData.eqv d e)) H) : rNeA K x y H Q := .inr ⟨d, e, Dp.up O.ex hd, Dp.up O.ex he, h1, h2, k⟩
theorem r_isN (k : Q (.bl (decide (x = .non))) H) : rIsNone x .non H Q := ⟨rfl, k⟩
theorem r_notN (k : Q (.bl (!decide (x = .non))) H) : rIsNotNone x .non H Q := ⟨rfl, k⟩
theorem r_ixT {i : Int} (O : Sta κ I ps H) (h : SqT K I a xs) (e : atI xs i = some v) (k : Q v H) : rIx K (.ref a) (.int i) H Q := .inr (.inl ⟨a, xs, i, v, rfl, rfl, O.sT h, e, k⟩)
theorem r_ixL {i : Int} (O : Sta κ I ps H) (h : SqL K H a xs) (e : atI xs i = some v) (k : Q v H) : rIx K (.ref a) (.int i) H Q := .inl ⟨a, xs, i, v, rfl, rfl, h, e, k⟩
theorem cut_whole {xs : List V} {lo hi : Option Int} (h : HT.sIx xs.length 0 lo = 0 ∧ HT.sIx xs.length xs.length hi = xs.length) : cutV xs lo hi = xs := by
  unfold cutV
  rw [h.1, h.2]
  simp
theorem r_slT {lo hi : Option Int} (O : Sta κ I ps H) (h : SqT K I a xs) (k : ∀ p J H2, Sta κ J ps H2 → Ex I J → SqT K J p (cutV xs lo hi) → Q (.ref p) H2) : rSlS K (.ref a) lo hi H Q := by
  refine .inr ⟨a, xs, rfl, O.sT h, fun w => ?_, fun _ => O.newO fun p J H2 O2 e q => k p J H2 O2 e (SqT.of q)⟩
  refine k a I H O (Ex.refl I) ?_
  rw [cut_whole w]
  exact h
theorem r_slL {lo hi : Option Int} (O : Sta κ I ps H) (h : SqL K H a xs) (k : ∀ p J H2, Sta κ J ps H2 → Ex I J → J p = some (.lst (cutV xs lo hi)) → Q (.ref p) H2) : rSlS K (.ref a) lo hi H Q := .inl ⟨a, xs, rfl, h, O.newO k⟩
theorem r_sl {r : V → Option Int → Option Int → Hp → VK → Prop} {te : TE} {tl th : TO} (h : te σ H fun x H1 => tl σ H1 fun lo H2 => th σ H2 fun hi H3 => r x lo hi H3 Q) : tSl r te tl th σ H Q := h
theorem r_nopart {R : Option Int → Hp → Prop} (h : R none H) : tNoPart σ H R := h
theorem r_part {R : Option Int → Hp → Prop} {t : TE} (h : t σ H fun x H1 => ∃ i, x = .int i ∧ R (some i) H1) : tPart t σ H R := h
theorem r_nil {R : List V → Hp → Prop} (h : R [] H) : tNil σ H R := h
theorem r_cons {R : List V → Hp → Prop} {ta : TE} {tr : TA} (h : ta σ H fun x H1 => tr σ H1 fun xs H2 => R (x :: xs) H2) : tCons ta tr σ H R := h
theorem r_star {R : List V → Hp → Prop} {te : TE} {tr : TA} (h : te σ H fun x H1 => ∃ a xs, x = .ref a ∧ (SqT K H1 a xs ∨ SqL K H1 a xs) ∧ tr σ H1 fun ys H2 => R (xs ++ ys) H2) : tStar K te tr σ H R := h
theorem r_starT {P : List V → Prop} (O : Sta κ I ps H) (h : SqT K I a xs) (k : P xs) : ∃ a2 xs2, V.ref a = .ref a2 ∧ (SqT K H a2 xs2 ∨ SqL K H a2 xs2) ∧ P xs2 := ⟨a, xs, rfl, .inl (O.sT h), k⟩
theorem r_tupF {t : TA} (h : t σ H fun xs H1 => xs.length ≤ sizeLine ∧ NewT xs H1 Q) : tTupF t σ H Q := h
def NewL (xs : List V) (H : Hp) (Q : VK) : Prop := ∀ p, H p = none → Q (.ref p) (upd H p (.lst xs))
theorem r_lst {t : TA} (h : t σ H fun xs H1 => xs.length ≤ sizeLine ∧ NewL xs H1 Q) : tLst t σ H Q := h
theorem r_newT (O : Sta κ I ps H) (hl : xs.length ≤ sizeLine) (k : ∀ p J H2, Sta κ J ps H2 → Ex I J → TupF J p xs → Q (.ref p) H2) : xs.length ≤ sizeLine ∧ NewT xs H Q := ⟨hl, O.newT k⟩
/-- a list that stays as it is; a list of one's own -/
theorem r_newL (O : Sta κ I ps H) (hl : xs.length ≤ sizeLine) (k : ∀ p J H2, Sta κ J ps H2 → Ex I J → J p = some (.lst xs) → Q (.ref p) H2) : xs.length ≤ sizeLine ∧ NewL xs H Q := ⟨hl, O.newO k⟩
theorem r_newP (O : Sta κ I ps H) (hl : xs.length ≤ sizeLine) (k : ∀ p H2, Sta κ I ((p, .lst xs) :: ps) H2 → Q (.ref p) H2) : xs.length ≤ sizeLine ∧ NewL xs H Q := ⟨hl, O.newP k⟩
/-! tests -/
theorem r_test {t : TE} {R : Bool → Hp → Prop} (h : t σ H fun x H1 => ∃ k, x = .bl k ∧ R k H1) : tTest t σ H R := h
theorem r_truth {t : TE} {R : Bool → Hp → Prop} (h : t σ H fun x H1 => ∃ k, TruV K x H1 k ∧ R k H1) : tTruth K t σ H R := h
theorem r_truB {R : Bool → Hp → Prop} {c : Bool} (h : R c H) : ∃ k, TruV K (.bl c) H k ∧ R k H := ⟨c, rfl, h⟩
theorem r_exB {P : Bool → Prop} {c : Bool} (h : P c) : ∃ k, V.bl c = .bl k ∧ P k := ⟨c, rfl, h⟩
theorem r_exI {P : Int → Prop} {i : Int} (h : P i) : ∃ k, V.int i = .int k ∧ P k := ⟨i, rfl, h⟩
theorem r_ex2 {P : V → V → Prop} (h : P x y) : ∃ v w, [x, y] = [v, w] ∧ P v w := ⟨x, y, rfl, h⟩
theorem r_ex3 {P : V → V → V → Prop} {z : V} (h : P x y z) : ∃ u v w, [x, y, z] = [u, v, w] ∧ P u v w := ⟨x, y, z, rfl, h⟩
theorem r_and {t w : TT} {R : Bool → Hp → Prop} (h : t σ H fun c H1 => if c = true then w σ H1 R else R false H1) : tAnd t w σ H R := h
theorem r_or {t w : TT} {R : Bool → Hp → Prop} (h : t σ H fun c H1 => if c = true then R true H1 else w σ H1 R) : tOr t w σ H R := h
theorem r_not {t : TT} {R : Bool → Hp → Prop} (h : t σ H fun c H1 => R (!c) H1) : tNot t σ H R := h
theorem r_andV {ta tb : TE} (h : ta σ H fun x H1 => ∃ c, x = .bl c ∧ if c = true then tb σ H1 Q else Q (.bl false) H1) : tAndV ta tb σ H Q := h
theorem r_orV {ta tb : TE} (h : ta σ H fun x H1 => ∃ c, x = .bl c ∧ if c = true then Q (.bl true) H1 else tb σ H1 Q) : tOrV ta tb σ H Q := h
theorem r_notV {ta : TE} (h : ta σ H fun x H1 => ∃ c, x = .bl c ∧ Q (.bl (!c)) H1) : tNotV ta σ H Q := h
theorem r_ifE {t : TT} {ta tb : TE} (h : t σ H fun c H1 => if c = true then ta σ H1 Q else tb σ H1 Q) : tIf t ta tb σ H Q := h
theorem r_chain {r r2 : R2} {ta tb tc : TE} (h : ta σ H fun x H1 => tb σ H1 fun y H2 => r x y H2 fun z H3 => ∃ k, z = .bl k ∧ (if k = true then tc σ H3 fun w H4 => r2 y w H4 Q else Q (.bl false) H3)) : tChain r r2 ta tb tc σ H Q := h
theorem r_ite {A B : Prop} {p : Prop} [Decidable p] (h1 : p → A) (h2 : ¬ p → B) : if decide p = true then A else B := by
  by_cases h : p
  · rw [if_pos (decide_eq_true h)]; exact h1 h
  · rw [if_neg (by rw [decide_eq_false h]; exact Bool.false_ne_true)]; exact h2 h
theorem r_iteN {A B : Prop} {c : Bool} (h : if c = true then B else A) : if (!c) = true then A else B := by
  cases c with
  | true => exact h
  | false => exact h
theorem r_iteT {A B : Prop} (h : A) : if true = true then A else B := by rw [if_pos rfl]; exact h
theorem r_iteF {A B : Prop} (h : B) : if false = true then A else B := by rw [if_neg Bool.false_ne_true]; exact h
theorem r_yes {A B : Prop} {p : Prop} [Decidable p] (hp : p) (h : A) : if decide p = true then A else B := by rw [if_pos (decide_eq_true hp)]; exact h
theorem r_no {A B : Prop} {p : Prop} [Decidable p] (hp : ¬ p) (h : B) : if decide p = true then A else B := by rw [if_neg (by rw [decide_eq_false hp]; exact Bool.false_ne_true)]; exact h
/-! calls -/
theorem r_cb {r : List V → Hp → VK → Prop} {t : TA} (h : t σ H fun vs H1 => r vs H1 Q) : tCB r t σ H Q := h
theorem r_call {sp : Sp} {E : XK} {t : TA} (h : t σ H fun vs H1 => sp vs H1 Q E) : tCall sp [] E t σ H Q := by
  show t σ H fun vs H1 => sp (vs ++ []) H1 Q E
  have e : (fun vs H1 => sp (vs ++ []) H1 Q E) = fun vs H1 => sp vs H1 Q E := by
    funext vs H1
    rw [List.append_nil]
  rw [e]
  exact h
theorem r_lenT (O : Sta κ I ps H) (h : SqT K I a xs) (k : Q (.int (xs.length : Nat)) H) : rLenA K [.ref a] H Q := ⟨.ref a, xs.length, rfl, .inr ⟨xs, O.sT h, rfl⟩, k⟩
theorem r_lenL (h : SqL K H a xs) (k : Q (.int (xs.length : Nat)) H) : rLenA K [.ref a] H Q := ⟨.ref a, xs.length, rfl, .inl ⟨xs, h, rfl⟩, k⟩
theorem r_max2 {i j : Int} (k : Q (.int (if j > i then j else i)) H) : rMaxA K [.int i, .int j] H Q := .inl ⟨i, j, rfl, k⟩
theorem r_min2 {i j : Int} (k : Q (.int (if j < i then j else i)) H) : rMinA K [.int i, .int j] H Q := .inl ⟨i, j, rfl, k⟩
theorem r_maxL {ns : List Int} (h : SqL K H a (ns.map V.int)) (hn : 0 < ns.length) (k : ∀ m, m ∈ ns → (∀ y, y ∈ ns → y ≤ m) → Q (.int m) H) : rMaxA K [.ref a] H Q := .inr ⟨a, ns, rfl, h, hn, k⟩
theorem r_repr {d : PyData} (O : Sta κ I ps H) (h : Dp K I v d) (h1 : d.showable = true) (h2 : d.depth ≤ 60) (h3 : d.shown.length ≤ sizeLine) (k : Q (.str d.shown) H) : rRepr K [v] H Q := ⟨v, d, rfl, Dp.up O.ex h, h1, h2, h3, k⟩
theorem r_listT (O : Sta κ I ps H) (h : SqL K H a xs ∨ SqT K H a xs) (k : ∀ p H2, Sta κ I ((p, .lst xs) :: ps) H2 → Q (.ref p) H2) : rListA K [.ref a] H Q := ⟨a, xs, rfl, h, O.newP k⟩
theorem r_tupL (O : Sta κ I ps H) (h : SqL K H a xs) (k : ∀ p J H2, Sta κ J ps H2 → Ex I J → TupF J p xs → Q (.ref p) H2) : rTupF K [.ref a] H Q := ⟨a, xs, rfl, .inl ⟨h, O.newT k⟩⟩
theorem r_divmod {i j : Int} (O : Sta κ I ps H) (hc : CDiv i j) (k : ∀ p J H2, Sta κ J ps H2 → Ex I J → SqT K J p [.int (i / j), .int (i % j)] → Q (.ref p) H2) : rDivmod [.int i, .int j] H Q := ⟨i, j, rfl, hc, O.newO fun p J H2 O2 e q => k p J H2 O2 e (SqT.of q)⟩
theorem r_int1 {c : Bool} (k : Q (.int (if c then 1 else 0)) H) : rInt1 [.bl c] H Q := .inr ⟨c, rfl, k⟩
theorem r_bmT {r : V → List V → Hp → VK → Prop} {to : TE} {t : TA} (h : to σ H fun x H1 => (∃ p xs, x = .ref p ∧ TupF H1 p xs) ∧ t σ H1 fun xs H2 => r x xs H2 Q) : tBMT r to t σ H Q := h
theorem r_tyT {A : Prop} (O : Sta κ I ps H) (h : TupF I a xs) (k : A) : (∃ p xs, V.ref a = .ref p ∧ TupF H p xs) ∧ A := ⟨⟨a, xs, rfl, TupF.up O.ex h⟩, k⟩
theorem r_cntT {ns : List Int} {k : Int} (O : Sta κ I ps H) (h : SqT K I a (ns.map V.int)) (q : Q (.int (ns.count k : Nat)) H) : rCntT K (.ref a) [.int k] H Q := ⟨a, ns, k, rfl, rfl, O.sT h, q⟩
theorem r_bm {r : V → List V → Hp → VK → Prop} {to : TE} {t : TA} {T : String} (h : to σ H fun x H1 => tyV K T x H1 ∧ t σ H1 fun xs H2 => r x xs H2 Q) : tBM K T r to t σ H Q := h
theorem r_bm0 {r : V → List V → Hp → VK → Prop} {to : TE} {T : String} (h : to σ H fun x H1 => tyV K T x H1 ∧ r x [] H1 Q) : tBM0 K T r to σ H Q := h
theorem r_tyL {A : Prop} (h : SqL K H a xs) (k : A) : tyV K "list" (.ref a) H ∧ A := ⟨.inl ⟨rfl, xs, h⟩, k⟩
theorem r_app {n : Nat} (O : Sta κ I ps H) (h : ps[n]? = some (l, .lst xs)) (hl : xs.length < sizeLine) (k : ∀ H2, Sta κ I (ps.set n (l, .lst (xs ++ [v]))) H2 → Q .non H2) : rAppend (.ref l) [v] H Q := ⟨l, xs, v, rfl, rfl, O.ix h, hl, k _ (O.set h)⟩
theorem r_pop {n : Nat} (O : Sta κ I ps H) (h : ps[n]? = some (l, .lst xs)) (e : xs[xs.length - 1]? = some v) (k : ∀ H2, Sta κ I (ps.set n (l, .lst xs.dropLast)) H2 → Q v H2) : rPop (.ref l) [] H Q := ⟨l, xs, v, rfl, rfl, O.ix h, e, k _ (O.set h)⟩
/-! loops -/
def LoopR (J : It) (g : TG) (tb : TS) (D : Ends) (σ : St) (H : Hp) : Prop := ∃ W : Nat → Nat → St → Hp → Prop, (∃ m, W 0 m σ H) ∧ ∀ i m σ H, W i m σ H →
  (J.stop i H ∧ D.nx σ H) ∨ (J.go i H ∧ ∃ N : St → Hp → Prop, (∀ σ2 H2, N σ2 H2 → ∃ m2, m2 < m ∧ W (i + 1) m2 σ2 H2) ∧ ∀ x H2, J.yld i H x H2 → g x σ H2 fun σ3 H3 => tb { D with nx := N, ct := N, bk := D.nx } σ3 H3)
theorem r_for {wi : TI} {g : TG} {tb : TS} (h : wi σ H fun J H1 => LoopR J g tb D σ H1) : tFor wi g tb D σ H := h
def CompR (J : It) (g : TG) (tt : TT) (te : TE) (vs : List Nat) (σ : St) (H : Hp) (Q : VK) : Prop := ∀ D, H D = none → ∃ W : Nat → Nat → Hp → Prop, (∃ m, W 0 m (upd H D (.lst []))) ∧ ∀ i m H, W i m H →
  (J.stop i H ∧ Q (.ref D) H) ∨ (J.go i H ∧ ∃ Nx : Hp → Prop, (∀ H2, Nx H2 → ∃ m2, m2 < m ∧ W (i + 1) m2 H2) ∧ ∀ x H2, J.yld i H x H2 → g x (wipe σ vs) H2 fun σ2 H3 => wipe σ2 vs = wipe σ vs ∧ tt σ2 H3 fun b H4 =>
    if b = true then te σ2 H4 fun y H5 => ∃ acc, H5 D = some (.lst acc) ∧ acc.length < sizeLine ∧ Nx (upd H5 D (.lst (acc ++ [y]))) else Nx H4)
theorem r_lc {wi : TI} {g : TG} {tt : TT} {te : TE} {vs : List Nat} (h : wi σ H fun J H1 => CompR J g tt te vs σ H1 Q) : tLc wi g tt te vs σ H Q := h
theorem r_yes0 {R : Bool → Hp → Prop} (h : R true H) : tYes σ H R := h
theorem r_rng1 {ta : TA} {R : It → Hp → Prop} (h : ta σ H fun vs H1 => ∃ j : Int, vs = [.int j] ∧ -(2 ^ 62) ≤ j ∧ j < 2 ^ 62 ∧ R (Itr 0 j.toNat) H1) : iRng1 ta σ H R := h
theorem r_rng1k {P : Int → Prop} {j : Int} (h1 : -(2 ^ 62) ≤ j) (h2 : j < 2 ^ 62) (k : P j) : ∃ i : Int, [V.int j] = [.int i] ∧ -(2 ^ 62) ≤ i ∧ i < 2 ^ 62 ∧ P i := ⟨j, rfl, h1, h2, k⟩
theorem r_rng2 {ta : TA} {R : It → Hp → Prop} (h : ta σ H fun vs H1 => ∃ i j : Int, vs = [.int i, .int j] ∧ (-(2 ^ 62) ≤ i ∧ i < 2 ^ 62 ∧ -(2 ^ 62) ≤ j ∧ j < 2 ^ 62) ∧ R (Itr i (j - i).toNat) H1) : iRng2 ta σ H R := h
theorem r_rng2k {P : Int → Int → Prop} {i j : Int} (h : -(2 ^ 62) ≤ i ∧ i < 2 ^ 62 ∧ -(2 ^ 62) ≤ j ∧ j < 2 ^ 62) (k : P i j) : ∃ i2 j2 : Int, [V.int i, V.int j] = [.int i2, .int j2] ∧ (-(2 ^ 62) ≤ i2 ∧ i2 < 2 ^ 62 ∧ -(2 ^ 62) ≤ j2 ∧ j2 < 2 ^ 62) ∧ P i2 j2 := ⟨i, j, rfl, h, k⟩
theorem r_seqI {te : TE} {R : It → Hp → Prop} (h : te σ H fun x H1 => ∃ a xs, x = .ref a ∧ ((SqL K H1 a xs ∧ R (Itl K a) H1) ∨ (SqT K H1 a xs ∧ R (Itt K a) H1))) : iSeq K te σ H R := h
theorem r_seqT {P1 P2 : Addr → Prop} (O : Sta κ I ps H) (h : SqT K I a xs) (k : P2 a) : ∃ b ys, V.ref a = .ref b ∧ ((SqL K H b ys ∧ P1 b) ∨ (SqT K H b ys ∧ P2 b)) := ⟨a, xs, rfl, .inr ⟨O.sT h, k⟩⟩
theorem r_seqL {P1 P2 : Addr → Prop} (h : SqL K H a xs) (k : P1 a) : ∃ b ys, V.ref a = .ref b ∧ ((SqL K H b ys ∧ P1 b) ∨ (SqT K H b ys ∧ P2 b)) := ⟨a, xs, rfl, .inl ⟨h, k⟩⟩
theorem r_enum {ta : TA} {R : It → Hp → Prop} (h : ta σ H fun vs H1 => ∃ a xs, vs = [.ref a] ∧ ((SqL K H1 a xs ∧ R (Itu xs.length (fun H => SqL K H a xs) (YEnum xs)) H1) ∨ (SqT K H1 a xs ∧ R (Itu xs.length (fun H => SqT K H a xs) (YEnum xs)) H1))) : iEnumS K ta σ H R := h
theorem r_enumT {P1 P2 : Addr → List V → Prop} (O : Sta κ I ps H) (h : SqT K I a xs) (k : P2 a xs) : ∃ b ys, [V.ref a] = [.ref b] ∧ ((SqL K H b ys ∧ P1 b ys) ∨ (SqT K H b ys ∧ P2 b ys)) := ⟨a, xs, rfl, .inr ⟨O.sT h, k⟩⟩
theorem r_enumL {P1 P2 : Addr → List V → Prop} (h : SqL K H a xs) (k : P1 a xs) : ∃ b ys, [V.ref a] = [.ref b] ∧ ((SqL K H b ys ∧ P1 b ys) ∨ (SqT K H b ys ∧ P2 b ys)) := ⟨a, xs, rfl, .inl ⟨h, k⟩⟩
theorem r_zip {ta : TA} {R : It → Hp → Prop} (h : ta σ H fun vs H1 => ∃ a b xs ys, vs = [.ref a, .ref b] ∧
  ((SqL K H1 a xs ∧ SqL K H1 b ys ∧ R (Itu (min xs.length ys.length) (fun H => SqL K H a xs ∧ SqL K H b ys) (YZip xs ys)) H1) ∨
   (SqL K H1 a xs ∧ SqT K H1 b ys ∧ R (Itu (min xs.length ys.length) (fun H => SqL K H a xs ∧ SqT K H b ys) (YZip xs ys)) H1) ∨
   (SqT K H1 a xs ∧ SqL K H1 b ys ∧ R (Itu (min xs.length ys.length) (fun H => SqT K H a xs ∧ SqL K H b ys) (YZip xs ys)) H1) ∨
   (SqT K H1 a xs ∧ SqT K H1 b ys ∧ R (Itu (min xs.length ys.length) (fun H => SqT K H a xs ∧ SqT K H b ys) (YZip xs ys)) H1))) : iZipS K ta σ H R := h
end
end L3

/-! loops and comprehensions by an invariant over the state. -/
namespace L3
open PySem PySem.Spec PyProof.Rows L2
/-- what holds between two turns -/
def LInv (I : Hp) (κ : Nat → Kn) (Pv : Nat → St → Hp → PL → Prop) (i : Nat) (σ : St) (H : Hp) : Prop := ∃ J ps, Ex I J ∧ Sta (κ i) J ps H ∧ Pv i σ J ps
def CInv (I : Hp) (κ : Nat → Kn) (Pv : Nat → Hp → PL → List V → Prop) (D : Addr) (i : Nat) (H : Hp) : Prop := ∃ J ps acc, Ex I J ∧ Sta (κ i) J ((D, .lst acc) :: ps) H ∧ Pv i J ps acc
section
variable {K : PySem.W.Frag} {κ : Nat → Kn} {I J H : Hp} {ps : PL} {a b : Addr} {xs ys : List V} {Q : VK} {σ : St} {D : Ends} {g : TG} {tb : TS} {tt : TT} {te : TE} {vs : List Nat}
theorem r_linv {Pv : Nat → St → Hp → PL → Prop} {i : Nat} (e : Ex I J) (O : Sta (κ i) J ps H) (h : Pv i σ J ps) : LInv I κ Pv i σ H := ⟨J, ps, e, O, h⟩
theorem loop_rng {lo : Int} {n : Nat} (κ : Nat → Kn) (Pv : Nat → St → Hp → PL → Prop) (O : Sta (κ 0) I ps H) (h0 : Pv 0 σ I ps)
    (hs : ∀ i σ1 J ps1 H1, i < n → Ex I J → Sta (κ i) J ps1 H1 → Pv i σ1 J ps1 → g (.int (lo + (i : Nat))) σ1 H1 fun σ2 H2 => tb { D with nx := LInv I κ Pv (i + 1), ct := LInv I κ Pv (i + 1), bk := D.nx } σ2 H2)
    (hd : ∀ σ1 J ps1 H1, Ex I J → Sta (κ n) J ps1 H1 → Pv n σ1 J ps1 → D.nx σ1 H1) : LoopR (Itr lo n) g tb D σ H :=
  for_range (LInv I κ Pv) ⟨I, ps, Ex.refl I, O, h0⟩ (fun i σ1 H1 hi ⟨J, ps1, e, O1, p⟩ => hs i σ1 J ps1 H1 hi e O1 p) fun σ1 H1 ⟨J, ps1, e, O1, p⟩ => hd σ1 J ps1 H1 e O1 p
theorem loop_rng0 {n : Nat} (κ : Nat → Kn) (Pv : Nat → St → Hp → PL → Prop) (O : Sta (κ 0) I ps H) (h0 : Pv 0 σ I ps)
    (hs : ∀ i σ1 J ps1 H1, i < n → Ex I J → Sta (κ i) J ps1 H1 → Pv i σ1 J ps1 → g (.int (i : Nat)) σ1 H1 fun σ2 H2 => tb { D with nx := LInv I κ Pv (i + 1), ct := LInv I κ Pv (i + 1), bk := D.nx } σ2 H2)
    (hd : ∀ σ1 J ps1 H1, Ex I J → Sta (κ n) J ps1 H1 → Pv n σ1 J ps1 → D.nx σ1 H1) : LoopR (Itr 0 n) g tb D σ H :=
  loop_rng κ Pv O h0 (fun i σ1 J ps1 H1 hi e O1 p => by rw [Int.zero_add]; exact hs i σ1 J ps1 H1 hi e O1 p) hd
theorem loop_seqT (κ : Nat → Kn) (Pv : Nat → St → Hp → PL → Prop) (O : Sta (κ 0) I ps H) (hx : SqT K I a xs) (h0 : Pv 0 σ I ps)
    (hs : ∀ i x σ1 J ps1 H1, xs[i]? = some x → Ex I J → Sta (κ i) J ps1 H1 → Pv i σ1 J ps1 → g x σ1 H1 fun σ2 H2 => tb { D with nx := LInv I κ Pv (i + 1), ct := LInv I κ Pv (i + 1), bk := D.nx } σ2 H2)
    (hd : ∀ σ1 J ps1 H1, Ex I J → Sta (κ xs.length) J ps1 H1 → Pv xs.length σ1 J ps1 → D.nx σ1 H1) : LoopR (Itt K a) g tb D σ H :=
  for_tup (LInv I κ Pv) ⟨I, ps, Ex.refl I, O, h0⟩ (fun i σ1 H1 hi ⟨J, ps1, e, O1, p⟩ => O1.sT (SqT.up e hx)) (fun i x σ1 H1 hi ⟨J, ps1, e, O1, p⟩ => hs i x σ1 J ps1 H1 hi e O1 p) fun σ1 H1 ⟨J, ps1, e, O1, p⟩ => hd σ1 J ps1 H1 e O1 p
theorem loop_seqL (κ : Nat → Kn) (Pv : Nat → St → Hp → PL → Prop) (O : Sta (κ 0) I ps H) (hG : ∀ i σ1 J ps1 H1, Ex I J → Sta (κ i) J ps1 H1 → Pv i σ1 J ps1 → SqL K H1 a xs) (h0 : Pv 0 σ I ps)
    (hs : ∀ i x σ1 J ps1 H1, xs[i]? = some x → Ex I J → Sta (κ i) J ps1 H1 → Pv i σ1 J ps1 → g x σ1 H1 fun σ2 H2 => tb { D with nx := LInv I κ Pv (i + 1), ct := LInv I κ Pv (i + 1), bk := D.nx } σ2 H2)
    (hd : ∀ σ1 J ps1 H1, Ex I J → Sta (κ xs.length) J ps1 H1 → Pv xs.length σ1 J ps1 → D.nx σ1 H1) : LoopR (Itl K a) g tb D σ H :=
  for_list (LInv I κ Pv) ⟨I, ps, Ex.refl I, O, h0⟩ (fun i σ1 H1 hi ⟨J, ps1, e, O1, p⟩ => hG i σ1 J ps1 H1 e O1 p) (fun i x σ1 H1 hi ⟨J, ps1, e, O1, p⟩ => hs i x σ1 J ps1 H1 hi e O1 p) fun σ1 H1 ⟨J, ps1, e, O1, p⟩ => hd σ1 J ps1 H1 e O1 p
theorem walk_u {n : Nat} {G : Hp → Prop} {Y : Nat → List V → Prop} : Walk (Itu n G Y) n G fun i H x H2 => ∃ T us, x = .ref T ∧ H T = none ∧ H2 = upd H T (.tup us) ∧ Y i us where
  goes := fun i H hi g => ⟨hi, g⟩
  stops := fun H g => ⟨rfl, g⟩
  yields := fun i H x H2 hi g y => y
theorem loop_u {n : Nat} {G : Hp → Prop} {Y : Nat → List V → Prop} {gs : TGs} {m : Nat} (κ : Nat → Kn) (Pv : Nat → St → Hp → PL → Prop) (O : Sta (κ 0) I ps H) (hG : ∀ i σ1 J ps1 H1, Ex I J → Sta (κ i) J ps1 H1 → Pv i σ1 J ps1 → G H1) (hY : ∀ i us, Y i us → us.length = m) (h0 : Pv 0 σ I ps)
    (hs : ∀ i us σ1 J ps1 H1, i < n → Y i us → Ex I J → Sta (κ i) J ps1 H1 → Pv i σ1 J ps1 → gs us σ1 H1 fun σ2 H2 => tb { D with nx := LInv I κ Pv (i + 1), ct := LInv I κ Pv (i + 1), bk := D.nx } σ2 H2)
    (hd : ∀ σ1 J ps1 H1, Ex I J → Sta (κ n) J ps1 H1 → Pv n σ1 J ps1 → D.nx σ1 H1) : LoopR (Itu n G Y) (gTup K m gs) tb D σ H := by
  refine for_it walk_u (LInv I κ Pv) ⟨I, ps, Ex.refl I, O, h0⟩ (fun i σ1 H1 _ ⟨J, ps1, e, O1, p⟩ => hG i σ1 J ps1 H1 e O1 p) ?_ fun σ1 H1 ⟨J, ps1, e, O1, p⟩ => hd σ1 J ps1 H1 e O1 p
  rintro i x σ1 H1 H2 hi ⟨J, ps1, e, O1, p⟩ ⟨T, us, rfl, hT, rfl, y⟩
  exact ⟨T, us, rfl, SqT.of upd_same, hY i us y, hs i us σ1 J ps1 _ hi y e (O1.skip hT) p⟩
theorem loop_enumT {gs : TGs} (κ : Nat → Kn) (Pv : Nat → St → Hp → PL → Prop) (O : Sta (κ 0) I ps H) (hx : SqT K I a xs) (h0 : Pv 0 σ I ps)
    (hs : ∀ i x σ1 J ps1 H1, xs[i]? = some x → Ex I J → Sta (κ i) J ps1 H1 → Pv i σ1 J ps1 → gs [.int (i : Nat), x] σ1 H1 fun σ2 H2 => tb { D with nx := LInv I κ Pv (i + 1), ct := LInv I κ Pv (i + 1), bk := D.nx } σ2 H2)
    (hd : ∀ σ1 J ps1 H1, Ex I J → Sta (κ xs.length) J ps1 H1 → Pv xs.length σ1 J ps1 → D.nx σ1 H1) : LoopR (Itu xs.length (fun H => SqT K H a xs) (YEnum xs)) (gTup K 2 gs) tb D σ H :=
  loop_u κ Pv O (fun i σ1 J ps1 H1 e O1 p => O1.sT (SqT.up e hx)) (fun i us ⟨x, _, e⟩ => by rw [e]; rfl) h0 (fun i us σ1 J ps1 H1 hi ⟨x, hx, eu⟩ e O1 p => by rw [eu]; exact hs i x σ1 J ps1 H1 hx e O1 p) hd
theorem loop_enumL {gs : TGs} (κ : Nat → Kn) (Pv : Nat → St → Hp → PL → Prop) (O : Sta (κ 0) I ps H) (hG : ∀ i σ1 J ps1 H1, Ex I J → Sta (κ i) J ps1 H1 → Pv i σ1 J ps1 → SqL K H1 a xs) (h0 : Pv 0 σ I ps)
    (hs : ∀ i x σ1 J ps1 H1, xs[i]? = some x → Ex I J → Sta (κ i) J ps1 H1 → Pv i σ1 J ps1 → gs [.int (i : Nat), x] σ1 H1 fun σ2 H2 => tb { D with nx := LInv I κ Pv (i + 1), ct := LInv I κ Pv (i + 1), bk := D.nx } σ2 H2)
    (hd : ∀ σ1 J ps1 H1, Ex I J → Sta (κ xs.length) J ps1 H1 → Pv xs.length σ1 J ps1 → D.nx σ1 H1) : LoopR (Itu xs.length (fun H => SqL K H a xs) (YEnum xs)) (gTup K 2 gs) tb D σ H :=
  loop_u κ Pv O hG (fun i us ⟨x, _, e⟩ => by rw [e]; rfl) h0 (fun i us σ1 J ps1 H1 hi ⟨x, hx, eu⟩ e O1 p => by rw [eu]; exact hs i x σ1 J ps1 H1 hx e O1 p) hd
/-! comprehensions -/
/-- what a turn of a comprehension is to reach -/
def CTurn (I : Hp) (κ : Nat → Kn) (Pv : Nat → Hp → PL → List V → Prop) (tt : TT) (te : TE) (vs : List Nat) (σ : St) (Dl : Addr) (i : Nat) (σ2 : St) (H : Hp) : Prop := wipe σ2 vs = wipe σ vs ∧ tt σ2 H fun c H4 =>
  if c = true then te σ2 H4 fun y H5 => ∃ acc, H5 Dl = some (.lst acc) ∧ acc.length < sizeLine ∧ CInv I κ Pv Dl (i + 1) (upd H5 Dl (.lst (acc ++ [y]))) else CInv I κ Pv Dl (i + 1) H4
theorem r_cturn {Pv : Nat → Hp → PL → List V → Prop} {Dl : Addr} {i : Nat} {σ2 : St} (hw : wipe σ2 vs = wipe σ vs) (h : tt σ2 H fun c H4 =>
  if c = true then te σ2 H4 fun y H5 => ∃ acc, H5 Dl = some (.lst acc) ∧ acc.length < sizeLine ∧ CInv I κ Pv Dl (i + 1) (upd H5 Dl (.lst (acc ++ [y]))) else CInv I κ Pv Dl (i + 1) H4) : CTurn I κ Pv tt te vs σ Dl i σ2 H := ⟨hw, h⟩
theorem r_cadd {Pv : Nat → Hp → PL → List V → Prop} {Dl : Addr} {i : Nat} {acc : List V} {y : V} (e : Ex I J) (O : Sta (κ i) J ((Dl, .lst acc) :: ps) H) (hl : acc.length < sizeLine) (h : Pv i J ps (acc ++ [y])) :
    ∃ acc, H Dl = some (.lst acc) ∧ acc.length < sizeLine ∧ CInv I κ Pv Dl i (upd H Dl (.lst (acc ++ [y]))) := ⟨acc, O.ix (i := 0) rfl, hl, J, ps, acc ++ [y], e, O.set (i := 0) rfl, h⟩
theorem r_cnone {Pv : Nat → Hp → PL → List V → Prop} {Dl : Addr} {i : Nat} {acc : List V} (e : Ex I J) (O : Sta (κ i) J ((Dl, .lst acc) :: ps) H) (h : Pv i J ps acc) : CInv I κ Pv Dl i H := ⟨J, ps, acc, e, O, h⟩
theorem comp_rng {lo : Int} {n : Nat} (κ : Nat → Kn) (Pv : Nat → Hp → PL → List V → Prop) (O : Sta (κ 0) I ps H) (h0 : Pv 0 I ps [])
    (hs : ∀ Dl i J ps1 acc H1, i < n → Ex I J → Sta (κ i) J ((Dl, .lst acc) :: ps1) H1 → Pv i J ps1 acc → g (.int (lo + (i : Nat))) (wipe σ vs) H1 (CTurn I κ Pv tt te vs σ Dl i))
    (hd : ∀ p J ps1 acc H1, Ex I J → Sta (κ n) J ((p, .lst acc) :: ps1) H1 → Pv n J ps1 acc → Q (.ref p) H1) : CompR (Itr lo n) g tt te vs σ H Q := fun Dl hD =>
  lc_range (Qd := fun H1 => Q (.ref Dl) H1) (CInv I κ Pv Dl) ⟨I, ps, [], Ex.refl I, O.own hD, h0⟩ (fun i H1 hi ⟨J, ps1, acc, e, O1, p⟩ => hs Dl i J ps1 acc H1 hi e O1 p) fun H1 ⟨J, ps1, acc, e, O1, p⟩ => hd Dl J ps1 acc H1 e O1 p
theorem comp_rng0 {n : Nat} (κ : Nat → Kn) (Pv : Nat → Hp → PL → List V → Prop) (O : Sta (κ 0) I ps H) (h0 : Pv 0 I ps [])
    (hs : ∀ Dl i J ps1 acc H1, i < n → Ex I J → Sta (κ i) J ((Dl, .lst acc) :: ps1) H1 → Pv i J ps1 acc → g (.int (i : Nat)) (wipe σ vs) H1 (CTurn I κ Pv tt te vs σ Dl i))
    (hd : ∀ p J ps1 acc H1, Ex I J → Sta (κ n) J ((p, .lst acc) :: ps1) H1 → Pv n J ps1 acc → Q (.ref p) H1) : CompR (Itr 0 n) g tt te vs σ H Q :=
  comp_rng κ Pv O h0 (fun Dl i J ps1 acc H1 hi e O1 p => by rw [Int.zero_add]; exact hs Dl i J ps1 acc H1 hi e O1 p) hd
theorem comp_seqT (κ : Nat → Kn) (Pv : Nat → Hp → PL → List V → Prop) (O : Sta (κ 0) I ps H) (hx : SqT K I a xs) (h0 : Pv 0 I ps [])
    (hs : ∀ Dl i x J ps1 acc H1, xs[i]? = some x → Ex I J → Sta (κ i) J ((Dl, .lst acc) :: ps1) H1 → Pv i J ps1 acc → g x (wipe σ vs) H1 (CTurn I κ Pv tt te vs σ Dl i))
    (hd : ∀ p J ps1 acc H1, Ex I J → Sta (κ xs.length) J ((p, .lst acc) :: ps1) H1 → Pv xs.length J ps1 acc → Q (.ref p) H1) : CompR (Itt K a) g tt te vs σ H Q := fun Dl hD =>
  lc_tup (Qd := fun H1 => Q (.ref Dl) H1) (CInv I κ Pv Dl) ⟨I, ps, [], Ex.refl I, O.own hD, h0⟩ (fun i H1 _ ⟨J, ps1, acc, e, O1, p⟩ => O1.sT (SqT.up e hx)) (fun i x H1 hi ⟨J, ps1, acc, e, O1, p⟩ => hs Dl i x J ps1 acc H1 hi e O1 p) fun H1 ⟨J, ps1, acc, e, O1, p⟩ => hd Dl J ps1 acc H1 e O1 p
theorem comp_seqL (κ : Nat → Kn) (Pv : Nat → Hp → PL → List V → Prop) (O : Sta (κ 0) I ps H) (hG : ∀ Dl i J ps1 acc H1, Ex I J → Sta (κ i) J ((Dl, .lst acc) :: ps1) H1 → Pv i J ps1 acc → SqL K H1 a xs) (h0 : Pv 0 I ps [])
    (hs : ∀ Dl i x J ps1 acc H1, xs[i]? = some x → Ex I J → Sta (κ i) J ((Dl, .lst acc) :: ps1) H1 → Pv i J ps1 acc → g x (wipe σ vs) H1 (CTurn I κ Pv tt te vs σ Dl i))
    (hd : ∀ p J ps1 acc H1, Ex I J → Sta (κ xs.length) J ((p, .lst acc) :: ps1) H1 → Pv xs.length J ps1 acc → Q (.ref p) H1) : CompR (Itl K a) g tt te vs σ H Q := fun Dl hD =>
  lc_list (Qd := fun H1 => Q (.ref Dl) H1) (CInv I κ Pv Dl) ⟨I, ps, [], Ex.refl I, O.own hD, h0⟩ (fun i H1 _ ⟨J, ps1, acc, e, O1, p⟩ => hG Dl i J ps1 acc H1 e O1 p) (fun i x H1 hi ⟨J, ps1, acc, e, O1, p⟩ => hs Dl i x J ps1 acc H1 hi e O1 p) fun H1 ⟨J, ps1, acc, e, O1, p⟩ => hd Dl J ps1 acc H1 e O1 p
theorem comp_u {n : Nat} {G : Hp → Prop} {Y : Nat → List V → Prop} {gs : TGs} {m : Nat} (κ : Nat → Kn) (Pv : Nat → Hp → PL → List V → Prop) (O : Sta (κ 0) I ps H) (hG : ∀ Dl i J ps1 acc H1, Ex I J → Sta (κ i) J ((Dl, .lst acc) :: ps1) H1 → Pv i J ps1 acc → G H1) (hY : ∀ i us, Y i us → us.length = m) (h0 : Pv 0 I ps [])
    (hs : ∀ Dl i us J ps1 acc H1, i < n → Y i us → Ex I J → Sta (κ i) J ((Dl, .lst acc) :: ps1) H1 → Pv i J ps1 acc → gs us (wipe σ vs) H1 (CTurn I κ Pv tt te vs σ Dl i))
    (hd : ∀ p J ps1 acc H1, Ex I J → Sta (κ n) J ((p, .lst acc) :: ps1) H1 → Pv n J ps1 acc → Q (.ref p) H1) : CompR (Itu n G Y) (gTup K m gs) tt te vs σ H Q := fun Dl hD => by
  refine lc_it (Qd := fun H1 => Q (.ref Dl) H1) walk_u (CInv I κ Pv Dl) ⟨I, ps, [], Ex.refl I, O.own hD, h0⟩ (fun i H1 _ ⟨J, ps1, acc, e, O1, p⟩ => hG Dl i J ps1 acc H1 e O1 p) ?_ fun H1 ⟨J, ps1, acc, e, O1, p⟩ => hd Dl J ps1 acc H1 e O1 p
  rintro i x H1 H2 hi ⟨J, ps1, acc, e, O1, p⟩ ⟨T, us, rfl, hT, rfl, y⟩
  exact ⟨T, us, rfl, SqT.of upd_same, hY i us y, hs Dl i us J ps1 acc _ hi y e (O1.skip hT) p⟩
theorem comp_enumT {gs : TGs} (κ : Nat → Kn) (Pv : Nat → Hp → PL → List V → Prop) (O : Sta (κ 0) I ps H) (hx : SqT K I a xs) (h0 : Pv 0 I ps [])
    (hs : ∀ Dl i x J ps1 acc H1, xs[i]? = some x → Ex I J → Sta (κ i) J ((Dl, .lst acc) :: ps1) H1 → Pv i J ps1 acc → gs [.int (i : Nat), x] (wipe σ vs) H1 (CTurn I κ Pv tt te vs σ Dl i))
    (hd : ∀ p J ps1 acc H1, Ex I J → Sta (κ xs.length) J ((p, .lst acc) :: ps1) H1 → Pv xs.length J ps1 acc → Q (.ref p) H1) : CompR (Itu xs.length (fun H => SqT K H a xs) (YEnum xs)) (gTup K 2 gs) tt te vs σ H Q :=
  comp_u κ Pv O (fun Dl i J ps1 acc H1 e O1 p => O1.sT (SqT.up e hx)) (fun i us ⟨x, _, e⟩ => by rw [e]; rfl) h0 (fun Dl i us J ps1 acc H1 hi ⟨x, hx, eu⟩ e O1 p => by rw [eu]; exact hs Dl i x J ps1 acc H1 hx e O1 p) hd
/-- zip of two lists that stay as they are -/
theorem comp_zipL {gs : TGs} (κ : Nat → Kn) (Pv : Nat → Hp → PL → List V → Prop) (O : Sta (κ 0) I ps H) (ha : SqL K I a xs) (hb : SqL K I b ys) (h0 : Pv 0 I ps [])
    (hs : ∀ Dl i x y J ps1 acc H1, xs[i]? = some x → ys[i]? = some y → Ex I J → Sta (κ i) J ((Dl, .lst acc) :: ps1) H1 → Pv i J ps1 acc → gs [x, y] (wipe σ vs) H1 (CTurn I κ Pv tt te vs σ Dl i))
    (hd : ∀ p J ps1 acc H1, Ex I J → Sta (κ (min xs.length ys.length)) J ((p, .lst acc) :: ps1) H1 → Pv (min xs.length ys.length) J ps1 acc → Q (.ref p) H1) :
    CompR (Itu (min xs.length ys.length) (fun H => SqL K H a xs ∧ SqL K H b ys) (YZip xs ys)) (gTup K 2 gs) tt te vs σ H Q :=
  comp_u κ Pv O (fun Dl i J ps1 acc H1 e O1 p => ⟨O1.sL (SqL.up e ha), O1.sL (SqL.up e hb)⟩) (fun i us ⟨x, y, _, _, e⟩ => by rw [e]; rfl) h0 (fun Dl i us J ps1 acc H1 hi ⟨x, y, hx, hy, eu⟩ e O1 p => by rw [eu]; exact hs Dl i x y J ps1 acc H1 hx hy e O1 p) hd
theorem r_zipLL {P1 P2 P3 P4 : Addr → Addr → List V → List V → Prop} (ha : SqL K H a xs) (hb : SqL K H b ys) (k : P1 a b xs ys) : ∃ a2 b2 xs ys, [V.ref a, .ref b] = [.ref a2, .ref b2] ∧
  ((SqL K H a2 xs ∧ SqL K H b2 ys ∧ P1 a2 b2 xs ys) ∨ (SqL K H a2 xs ∧ SqT K H b2 ys ∧ P2 a2 b2 xs ys) ∨ (SqT K H a2 xs ∧ SqL K H b2 ys ∧ P3 a2 b2 xs ys) ∨ (SqT K H a2 xs ∧ SqT K H b2 ys ∧ P4 a2 b2 xs ys)) := ⟨a, b, xs, ys, rfl, .inl ⟨ha, hb, k⟩⟩
end
end L3

/-! data that may be shown and compared; further steps. -/
namespace L3
open PySem PySem.Spec PyProof.Rows L2
/-- data of depth at most k, its ints of moderate size, its texts plain -/
def good : Nat → PyData → Prop
  | _, .none => True
  | _, .bool _ => True
  | _, .int i => i.natAbs.log2 < 1920
  | _, .str x => PyData.strOk x = true ∧ ∀ c ∈ x.cps.toList, c < 16 ^ 8
  | 0, .list _ => False
  | 0, .tuple _ => False
  | k + 1, .list xs => ∀ x ∈ xs, good k x
  | k + 1, .tuple xs => ∀ x ∈ xs, good k x
  | _, .dict _ => False
mutual
/-- a bound for the text -/
def nz : PyData → Nat
  | .none => 4
  | .bool _ => 5
  | .int _ => 1921
  | .str x => 10 * x.length + 4
  | .list xs => 3 + nzAll xs
  | .tuple xs => 3 + nzAll xs
  | .dict _ => 0
def nzAll : List PyData → Nat
  | [] => 0
  | x :: xs => nz x + 2 + nzAll xs
end
theorem nzAll_le {c : Nat} : ∀ {xs : List PyData}, (∀ x ∈ xs, nz x ≤ c) → nzAll xs ≤ xs.length * (c + 2)
  | [], _ => Nat.zero_le _
  | x :: xs, h => by
    have h1 := h x List.mem_cons_self
    have h2 := nzAll_le (xs := xs) fun y hy => h y (List.mem_cons_of_mem _ hy)
    have e : (x :: xs).length * (c + 2) = xs.length * (c + 2) + (c + 2) := by rw [List.length_cons, Nat.succ_mul]
    simp only [nzAll]
    omega
theorem log2_small {i : Int} (h : i.natAbs < 2 ^ 1919) : i.natAbs.log2 < 1920 := by
  by_cases h0 : i.natAbs = 0
  · rw [h0]; decide
  · exact Nat.lt_succ_of_lt ((Nat.log2_lt h0).mpr h)
theorem good_int {k : Nat} {i : Int} (h1 : -1000000000000000000000000 < i) (h2 : i < 1000000000000000000000000) : good k (.int i) := by
  have : i.natAbs.log2 < 1920 := log2_small (Nat.lt_trans (show i.natAbs < 1000000000000000000000000 by omega) (by decide))
  cases k <;> exact this
mutual
theorem good_show : ∀ (k : Nat) (d : PyData), good k d → d.showable = true
  | _, .none, _ => by simp only [PyData.showable]
  | _, .bool _, _ => by simp only [PyData.showable]
  | 0, .int i, h => by simpa [PyData.showable] using (show i.natAbs.log2 < 1920 from h)
  | k + 1, .int i, h => by simpa [PyData.showable] using (show i.natAbs.log2 < 1920 from h)
  | _, .str _, _ => by simp only [PyData.showable]
  | k + 1, .list xs, h => by simp only [PyData.showable]; exact goods_show k xs h
  | k + 1, .tuple xs, h => by simp only [PyData.showable]; exact goods_show k xs h
  | 0, .list _, h => h.elim
  | 0, .tuple _, h => h.elim
  | 0, .dict _, h => h.elim
  | k + 1, .dict _, h => h.elim
theorem goods_show : ∀ (k : Nat) (ds : List PyData), (∀ x ∈ ds, good k x) → PyData.showableAll ds = true
  | _, [], _ => by simp only [PyData.showableAll]
  | k, d :: ds, h => by simp only [PyData.showableAll, good_show k d (h d List.mem_cons_self), goods_show k ds fun x hx => h x (List.mem_cons_of_mem _ hx), Bool.and_self]
end
mutual
theorem good_lay : ∀ (k : Nat) (d : PyData), good k d → d.canLay0 = true
  | _, .none, _ => by simp only [PyData.canLay0]
  | _, .bool _, _ => by simp only [PyData.canLay0]
  | _, .int i, _ => by simp only [PyData.canLay0]
  | 0, .str _, h => by simp only [PyData.canLay0]; exact h.1
  | k + 1, .str _, h => by simp only [PyData.canLay0]; exact h.1
  | k + 1, .list xs, h => by simp only [PyData.canLay0]; exact goods_lay k xs h
  | k + 1, .tuple xs, h => by simp only [PyData.canLay0]; exact goods_lay k xs h
  | 0, .list _, h => h.elim
  | 0, .tuple _, h => h.elim
  | 0, .dict _, h => h.elim
  | k + 1, .dict _, h => h.elim
theorem goods_lay : ∀ (k : Nat) (ds : List PyData), (∀ x ∈ ds, good k x) → PyData.canLayAll0 ds = true
  | _, [], _ => by simp only [PyData.canLayAll0]
  | k, d :: ds, h => by simp only [PyData.canLayAll0, good_lay k d (h d List.mem_cons_self), goods_lay k ds fun x hx => h x (List.mem_cons_of_mem _ hx), Bool.and_self]
end
mutual
theorem good_depth : ∀ (k : Nat) (d : PyData), good k d → d.depth ≤ k
  | _, .none, _ => by simp only [PyData.depth]; omega
  | _, .bool _, _ => by simp only [PyData.depth]; omega
  | _, .int i, _ => by simp only [PyData.depth]; omega
  | _, .str _, _ => by simp only [PyData.depth]; omega
  | k + 1, .list xs, h => by simp only [PyData.depth]; have := goods_depth k xs h; omega
  | k + 1, .tuple xs, h => by simp only [PyData.depth]; have := goods_depth k xs h; omega
  | 0, .list _, h => h.elim
  | 0, .tuple _, h => h.elim
  | 0, .dict _, h => h.elim
  | k + 1, .dict _, h => h.elim
theorem goods_depth : ∀ (k : Nat) (ds : List PyData), (∀ x ∈ ds, good k x) → PyData.depthAll ds ≤ k
  | _, [], _ => by simp only [PyData.depthAll]; omega
  | k, d :: ds, h => by
    simp only [PyData.depthAll]
    have h1 := good_depth k d (h d List.mem_cons_self)
    have h2 := goods_depth k ds fun x hx => h x (List.mem_cons_of_mem _ hx)
    omega
end
mutual
theorem good_nz : ∀ (k : Nat) (d : PyData), good k d → d.shown.length ≤ nz d
  | _, .none, _ => by simp only [PyData.shown, nz]; decide
  | _, .bool b, _ => by cases b <;> simp only [PyData.shown, nz] <;> decide
  | 0, .int i, h => by simp only [PyData.shown, nz]; exact PyProof.Rows.int_text_len_1921 h
  | k + 1, .int i, h => by simp only [PyData.shown, nz]; exact PyProof.Rows.int_text_len_1921 h
  | 0, .str x, h => by simp only [PyData.shown, nz]; exact Nat.le_trans (StrLaws.reprText_len x h.2) (Nat.add_le_add_left (by decide) _)
  | k + 1, .str x, h => by simp only [PyData.shown, nz]; exact Nat.le_trans (StrLaws.reprText_len x h.2) (Nat.add_le_add_left (by decide) _)
  | k + 1, .list xs, h => by
    simp only [PyData.shown, nz]
    have h1 := listText_len_le (PyData.shownAll xs)
    have h2 := goods_nz k xs h
    omega
  | k + 1, .tuple xs, h => by
    simp only [PyData.shown, nz]
    have h1 := tupleText_len_le (PyData.shownAll xs)
    have h2 := goods_nz k xs h
    omega
  | 0, .list _, h => h.elim
  | 0, .tuple _, h => h.elim
  | 0, .dict _, h => h.elim
  | k + 1, .dict _, h => h.elim
theorem goods_nz : ∀ (k : Nat) (ds : List PyData), (∀ x ∈ ds, good k x) → ((PyData.shownAll ds).map (·.length)).sum + 2 * (PyData.shownAll ds).length ≤ nzAll ds
  | _, [], _ => by simp only [PyData.shownAll, nzAll]; decide
  | k, d :: ds, h => by
    simp only [PyData.shownAll, nzAll, List.map_cons, List.sum_cons, List.length_cons]
    have h1 := good_nz k d (h d List.mem_cons_self)
    have h2 := goods_nz k ds fun x hx => h x (List.mem_cons_of_mem _ hx)
    omega
end
theorem good_shaped {k : Nat} {d : PyData} (h : good k d) (hk : k ≤ 64) : SeqAt.shaped d = true := by
  unfold SeqAt.shaped
  rw [good_lay k d h, decide_eq_true (Nat.le_trans (good_depth k d h) hk)]
  rfl
theorem good_tup {k : Nat} {xs : List PyData} (h : ∀ x ∈ xs, good k x) : good (k + 1) (.tuple xs) := h
theorem good_lst {k : Nat} {xs : List PyData} (h : ∀ x ∈ xs, good k x) : good (k + 1) (.list xs) := h
theorem goods_nil {k : Nat} : ∀ x ∈ ([] : List PyData), good k x := fun _ h => absurd h List.not_mem_nil
theorem goods_cons {k : Nat} {x : PyData} {xs : List PyData} (h : good k x) (hs : ∀ y ∈ xs, good k y) : ∀ y ∈ x :: xs, good k y := fun y hy => by
  rcases List.mem_cons.mp hy with rfl | hy
  · exact h
  · exact hs y hy
theorem goods_ints {k : Nat} {ns : List Int} (h : ∀ n ∈ ns, -1000000000000000000000000 < n ∧ n < 1000000000000000000000000) : ∀ y ∈ ns.map PyData.int, good k y := fun y hy => by
  obtain ⟨n, hn, rfl⟩ := List.mem_map.mp hy
  exact good_int (h n hn).1 (h n hn).2
theorem goods_rep {k n : Nat} {x : PyData} (h : good k x) : ∀ y ∈ List.replicate n x, good k y := fun y hy => by
  rw [(List.mem_replicate.mp hy).2]
  exact h
section
variable {K : PySem.W.Frag} {κ : Kn} {I J H H1 H2 : Hp} {ps qs : PL} {a p l b : Addr} {xs ys : List V} {o u : HO} {v x y : V} {Q : VK} {σ σ2 : St} {D : Ends} {i j : Nat}
theorem r_reprG {k : Nat} {d : PyData} (O : Sta κ I ps H) (h : Dp K I v d) (hg : good k d) (hk : k ≤ 60) (hz : nz d ≤ 16000000) (q : Q (.str d.shown) H) : rRepr K [v] H Q :=
  r_repr O h (good_show k d hg) (Nat.le_trans (good_depth k d hg) hk) (Nat.le_trans (Nat.le_trans (good_nz k d hg) hz) (by decide)) q
theorem r_eqG {k k2 : Nat} {d e : PyData} (O : Sta κ I ps H) (hd : Dp K I x d) (he : Dp K I y e) (h1 : good k d) (h2 : good k2 e) (hk : k ≤ 60) (hk2 : k2 ≤ 60) (q : Q (.bl (PyData.eqv d e)) H) : rEqA K x y H Q := r_eqD O hd he (good_shaped h1 (by omega)) (good_shaped h2 (by omega)) q
theorem r_neG {k k2 : Nat} {d e : PyData} (O : Sta κ I ps H) (hd : Dp K I x d) (he : Dp K I y e) (h1 : good k d) (h2 : good k2 e) (hk : k ≤ 60) (hk2 : k2 ≤ 60) (q : Q (.bl (!PyData.eqv d e)) H) : rNeA K x y H Q := r_neD O hd he (good_shaped h1 (by omega)) (good_shaped h2 (by omega)) q
theorem r_neStr {s1 s2 : Str} (e : s1 = s2) (q : Q (.bl false) H) : rNeA K (.str s1) (.str s2) H Q := by
  subst e
  refine r_neS rfl ?_
  rw [decide_eq_true rfl]
  exact q
theorem r_eqStr {s1 s2 : Str} (e : s1 = s2) (q : Q (.bl true) H) : rEqA K (.str s1) (.str s2) H Q := by
  subst e
  refine r_eqS rfl ?_
  rw [decide_eq_true rfl]
  exact q
/-- a list of ints beside the empty list -/
theorem shaped_intsL (ns : List Int) : SeqAt.shaped (.list (ns.map .int)) = true := by
  have h : ∀ ns : List Int, PyData.canLayAll0 (ns.map .int) = true ∧ PyData.depthAll (ns.map .int) = 0 := by
    intro ns
    induction ns with
    | nil => exact ⟨by simp only [List.map_nil, PyData.canLayAll0], by simp only [List.map_nil, PyData.depthAll]⟩
    | cons n ns ih => exact ⟨by simp only [List.map_cons, PyData.canLayAll0, PyData.canLay0, ih.1, Bool.and_self], by simp only [List.map_cons, PyData.depthAll, PyData.depth, ih.2, Nat.max_self]⟩
  unfold SeqAt.shaped
  simp only [PyData.canLay0, PyData.depth, (h ns).1, (h ns).2]
  rfl
theorem eqv_nil (ds : List PyData) : PyData.eqv (.list ds) (.list []) = decide (ds = []) := by
  cases ds with
  | nil => simp [PyData.eqv, PyData.eqvAll]
  | cons d ds => simp [PyData.eqv, PyData.eqvAll]
theorem r_neNilI {ns : List Int} (ha : SqL K H a (ns.map V.int)) (hb : SqL K H b []) (q : Q (.bl (!decide (ns = []))) H) : rNeA K (.ref a) (.ref b) H Q := by
  refine .inr ⟨.list (ns.map .int), .list [], .lst ha (dpAll_ints ns), .lst hb .nil, shaped_intsL ns, shaped_intsL [], ?_⟩
  rw [eqv_nil]
  have e : decide (ns.map PyData.int = []) = decide (ns = []) := by cases ns <;> simp
  rw [e]
  exact q
theorem r_eqNilI {ns : List Int} (ha : SqL K H a (ns.map V.int)) (hb : SqL K H b []) (q : Q (.bl (decide (ns = []))) H) : rEqA K (.ref a) (.ref b) H Q := by
  refine .inr ⟨.list (ns.map .int), .list [], .lst ha (dpAll_ints ns), .lst hb .nil, shaped_intsL ns, shaped_intsL [], ?_⟩
  rw [eqv_nil]
  have e : decide (ns.map PyData.int = []) = decide (ns = []) := by cases ns <;> simp
  rw [e]
  exact q
theorem r_revL {te : TE} (h : te σ H fun x H1 => ∃ a xs, x = .ref a ∧ SqL K H1 a xs ∧ NewL xs.reverse H1 Q) : tRevL K te σ H Q := h
theorem r_revP (O : Sta κ I ps H) (h : SqL K H a xs) (k : ∀ p H2, Sta κ I ((p, .lst xs.reverse) :: ps) H2 → Q (.ref p) H2) : ∃ b ys, V.ref a = .ref b ∧ SqL K H b ys ∧ NewL ys.reverse H Q := ⟨a, xs, rfl, h, O.newP k⟩
theorem r_gsub {to ti : TE} {t : TSet} {R : St → Hp → Prop} (h : to σ H fun o H1 => ti σ H1 fun i H2 => t o i v H2 fun H3 => R σ H3) : gSub to ti t v σ H R := h
theorem r_setL {R : Hp → Prop} {n j : Nat} {k : Int} (O : Sta κ I ps H) (h : ps[n]? = some (l, .lst xs)) (e : ixN xs.length k = some j) (q : ∀ H2, Sta κ I (ps.set n (l, .lst (xs.set j v))) H2 → R H2) : rSetL (.ref l) (.int k) v H R := ⟨l, xs, k, j, rfl, rfl, O.ix h, e, q _ (O.set h)⟩
theorem at_nat {α : Type} {xs : List α} {j : Nat} {x : α} (h : xs[j]? = some x) : atI xs (j : Int) = some x := by
  have hj := (List.getElem?_eq_some_iff.mp h).1
  unfold atI ixN
  rw [if_pos (by omega), if_pos (by omega)]
  simpa using h
theorem at_int {α : Type} {xs : List α} {i : Int} (h0 : 0 ≤ i) (h1 : i < xs.length) : ∃ x, atI xs i = some x ∧ xs[i.toNat]? = some x := by
  have hj : i.toNat < xs.length := by omega
  refine ⟨xs[i.toNat], ?_, List.getElem?_eq_getElem hj⟩
  have := at_nat (List.getElem?_eq_getElem hj)
  rwa [Int.toNat_of_nonneg h0] at this
theorem map_at {α β : Type} {f : α → β} {xs : List α} {i : Nat} {y : β} (h : (xs.map f)[i]? = some y) : ∃ x, xs[i]? = some x ∧ y = f x := by
  rw [List.getElem?_map] at h
  cases e : xs[i]? with
  | none => rw [e] at h; cases h
  | some x => rw [e] at h; exact ⟨x, rfl, (Option.some.inj h).symm⟩
end
end L3

/-! values as trees: tuples that bear no dict, made by +, by slices, by divmod. -/
namespace L4
open PySem PySem.Spec PyProof.Rows L2 L3
abbrev St := L2.St
section
variable {X : Cx}
def rCatF (K : PySem.W.Frag) : R2 := fun x y H Q => ∃ a b xs ys, x = .ref a ∧ y = .ref b ∧ SqT K H a xs ∧ SqT K H b ys ∧ xs.length + ys.length ≤ sizeLine ∧
  (xs = [] → Q (.ref b) H) ∧ (xs ≠ [] → ys = [] → Q (.ref a) H) ∧ (xs ≠ [] → ys ≠ [] → NewT (xs ++ ys) H Q)
theorem op_catF : OpR X (binaryOp .Add) (rCatF X.K) := by
  intro pins s σ H x y v u Q I rx ry h
  obtain ⟨a, b, xs, ys, rfl, rfl, ha, hb, hz, q0, q1, q2⟩ := h
  cases rx
  cases ry
  obtain ⟨its, r1, p1, _⟩ := I.tuple ha
  obtain ⟨its2, r2, p2, _⟩ := I.tuple hb
  by_cases hx : xs = []
  · subst hx
    cases r1
    exact cat_tup0 p1 p2 ⟨.ref b, H, I, rfl, q0 rfl⟩
  · refine HT.cat_tup p1 p2 (fun z => hx (r1.nil_iff.mp z)) (fun z => ⟨.ref a, H, I, rfl, q1 hx (r2.nil_iff.mp z)⟩) (fun z => ?_) (by rw [← r1.length, ← r2.length]; exact hz)
    exact newT_run I (r1.append r2) (by rw [List.length_append]; exact hz) (q2 hx fun w => z (r2.nil_iff.mpr w))
def rSlF (K : PySem.W.Frag) : V → Option Int → Option Int → Hp → VK → Prop := fun x lo hi H Q => ∃ a xs, x = .ref a ∧ SqT K H a xs ∧
  (HT.sIx xs.length 0 lo = 0 ∧ HT.sIx xs.length xs.length hi = xs.length → Q (.ref a) H) ∧ (¬ (HT.sIx xs.length 0 lo = 0 ∧ HT.sIx xs.length xs.length hi = xs.length) → NewT (cutV xs lo hi) H Q)
theorem sl_tupF : SlR X (rSlF X.K) := by
  intro pins s σ H x v vl vu lo hi sl Q I rx hs pl pu h
  obtain ⟨a, xs, rfl, hx, q1, q2⟩ := h
  cases rx
  obtain ⟨its, r, ht, hz⟩ := I.tuple hx
  have hlen : its.toArray.size = xs.length := by rw [List.size_toArray]; exact r.length.symm
  refine ⟨"tuple", _, PyProof.Rows.slot_tuple_getitem.lookup, ht.typeIs, ?_⟩
  by_cases hw : HT.sIx xs.length 0 lo = 0 ∧ HT.sIx xs.length xs.length hi = xs.length
  · exact getItem_tuple_whole ht hs pl pu (by rw [hlen]; exact hw) ⟨.ref a, H, I, rfl, q1 hw⟩
  · refine HT.getItem_tuple_cut ht hs pl pu (by rw [hlen]; exact hw) ?_ (by rw [hlen]; exact hz)
    rw [hlen]
    exact newT_run I ((r.drop (HT.sIx xs.length 0 lo)).take (HT.sIx xs.length xs.length hi - HT.sIx xs.length 0 lo)) (Nat.le_trans (cutV_length xs lo hi) hz) (q2 hw)
def rDivmodF : List V → Hp → VK → Prop := fun xs H Q => ∃ i j, xs = [.int i, .int j] ∧ CDiv i j ∧ NewT [.int (i / j), .int (i % j)] H Q
theorem call_divmodF : CallR X (.builtin "divmod") rDivmodF := by
  intro pins s σ H xs us Q I r h
  obtain ⟨i, j, rfl, ⟨h1, h2⟩, q⟩ := h
  obtain ⟨u, w', rfl, ⟨t, rfl⟩, ⟨t', rfl⟩⟩ := vals2 r
  refine divmod_int (by omega) ?_ (.inl (PyProof.noPylong_small (by omega)))
  rw [Int.fdiv_eq_ediv_of_nonneg i (by omega), Int.fmod_eq_emod_of_nonneg i (by omega)]
  exact newT_run (xs := [.int (i / j), .int (i % j)]) (us := [.int (i / j) s.toks, .int (i % j) (s.toks + 1)]) (I.tok (s.toks + 2)) (.cons ⟨_, rfl⟩ (.cons ⟨_, rfl⟩ .nil)) (by simp only [List.length_cons, List.length_nil]; rw [sizeLine_eq]; decide) q
end
/-! ### values as trees -/
inductive PV where
  | non
  | bl (b : Bool)
  | int (i : Int)
  | str (x : Str)
  | tup (xs : List PV)
  | lst (xs : List PV)
  | scr (ns : List Int)
  | own (k : Nat)
inductive AO where
  | lst (xs : List PV)
abbrev Sto := List AO
abbrev AEnv := List (Option PV)
mutual
inductive VR (K : PySem.W.Frag) (I : Hp) (ad : List Addr) : V → PV → Prop where
  | non : VR K I ad .non .non
  | bl (b : Bool) : VR K I ad (.bl b) (.bl b)
  | int (i : Int) : VR K I ad (.int i) (.int i)
  | str (x : Str) : VR K I ad (.str x) (.str x)
  | tup {a : Addr} {us : List V} {xs : List PV} : TupF I a us → VRs K I ad us xs → VR K I ad (.ref a) (.tup xs)
  | lst {a : Addr} {us : List V} {xs : List PV} : I a = some (.lst us) → VRs K I ad us xs → VR K I ad (.ref a) (.lst xs)
  | scr {a : Addr} {ns : List Int} : SqL K I a (ns.map V.int) → VR K I ad (.ref a) (.scr ns)
  | own {a : Addr} {k : Nat} : ad[k]? = some a → VR K I ad (.ref a) (.own k)
inductive VRs (K : PySem.W.Frag) (I : Hp) (ad : List Addr) : List V → List PV → Prop where
  | nil : VRs K I ad [] []
  | cons {v : V} {p : PV} {vs : List V} {ps : List PV} : VR K I ad v p → VRs K I ad vs ps → VRs K I ad (v :: vs) (p :: ps)
end
structure Wd where
  I : Hp
  ad : List Addr
  fr : PL
structure Wd.Lo (W W' : Wd) : Prop where
  ex : Ex W.I W'.I
  ad : ∀ (k : Nat) (a : Addr), W.ad[k]? = some a → W'.ad[k]? = some a
structure Wd.Le (W W' : Wd) : Prop extends Wd.Lo W W' where
  fr : W'.fr = W.fr
theorem Wd.Lo.refl (W : Wd) : W.Lo W := ⟨Ex.refl _, fun _ _ h => h⟩
theorem Wd.Lo.trans {A B C : Wd} (h : A.Lo B) (k : B.Lo C) : A.Lo C := ⟨h.ex.trans k.ex, fun i a e => k.ad i a (h.ad i a e)⟩
theorem Wd.Le.refl (W : Wd) : W.Le W := ⟨.refl W, rfl⟩
theorem Wd.Le.trans {A B C : Wd} (h : A.Le B) (k : B.Le C) : A.Le C := ⟨h.toLo.trans k.toLo, k.fr.trans h.fr⟩
section
variable {K : PySem.W.Frag} {W W' : Wd}
mutual
theorem VR.up (l : W.Lo W') : ∀ {v : V} {p : PV}, VR K W.I W.ad v p → VR K W'.I W'.ad v p
  | _, _, .non => .non
  | _, _, .bl b => .bl b
  | _, _, .int i => .int i
  | _, _, .str x => .str x
  | _, _, .tup h hs => .tup (TupF.up l.ex h) (VRs.up l hs)
  | _, _, .lst h hs => .lst (l.ex _ _ h) (VRs.up l hs)
  | _, _, .scr h => .scr (SqL.up l.ex h)
  | _, _, .own h => .own (l.ad _ _ h)
theorem VRs.up (l : W.Lo W') : ∀ {vs : List V} {ps : List PV}, VRs K W.I W.ad vs ps → VRs K W'.I W'.ad vs ps
  | _, _, .nil => .nil
  | _, _, .cons h hs => .cons (VR.up l h) (VRs.up l hs)
end
variable {I : Hp} {ad : List Addr}
theorem VRs.length {vs : List V} {ps : List PV} (h : VRs K I ad vs ps) : vs.length = ps.length := by
  induction vs generalizing ps with
  | nil => cases h; rfl
  | cons v vs ih => cases h with | cons _ h => rw [List.length_cons, List.length_cons, ih h]
theorem VRs.get {vs : List V} {ps : List PV} (h : VRs K I ad vs ps) {i : Nat} {p : PV} (e : ps[i]? = some p) : ∃ v, vs[i]? = some v ∧ VR K I ad v p := by
  induction vs generalizing ps i with
  | nil => cases h; cases e
  | cons v vs ih =>
    cases h with
    | cons h hs =>
      cases i with
      | zero => cases e; exact ⟨v, rfl, h⟩
      | succ i => exact ih hs e
theorem VRs.getV {vs : List V} {ps : List PV} (h : VRs K I ad vs ps) {i : Nat} {v : V} (e : vs[i]? = some v) : ∃ p, ps[i]? = some p ∧ VR K I ad v p := by
  induction vs generalizing ps i with
  | nil => cases h; cases e
  | cons v' vs ih =>
    cases h with
    | cons h hs =>
      cases i with
      | zero => cases e; exact ⟨_, rfl, h⟩
      | succ i => exact ih hs e
theorem VRs.append {vs us : List V} {ps qs : List PV} (h : VRs K I ad vs ps) (k : VRs K I ad us qs) : VRs K I ad (vs ++ us) (ps ++ qs) := by
  induction vs generalizing ps with
  | nil => cases h; exact k
  | cons v vs ih => cases h with | cons h hs => exact .cons h (ih hs)
theorem VRs.drop {vs : List V} {ps : List PV} (h : VRs K I ad vs ps) (n : Nat) : VRs K I ad (vs.drop n) (ps.drop n) := by
  induction n generalizing vs ps with
  | zero => exact h
  | succ n ih => cases h with
    | nil => exact .nil
    | cons _ hs => exact ih hs
theorem VRs.take {vs : List V} {ps : List PV} (h : VRs K I ad vs ps) (n : Nat) : VRs K I ad (vs.take n) (ps.take n) := by
  induction n generalizing vs ps with
  | zero => exact .nil
  | succ n ih => cases h with
    | nil => exact .nil
    | cons h hs => exact .cons h (ih hs)
theorem VRs.reverse {vs : List V} {ps : List PV} (h : VRs K I ad vs ps) : VRs K I ad vs.reverse ps.reverse := by
  induction vs generalizing ps with
  | nil => cases h; exact .nil
  | cons v vs ih => cases h with | cons h hs => rw [List.reverse_cons, List.reverse_cons]; exact (ih hs).append (.cons h .nil)
theorem VRs.set {vs : List V} {ps : List PV} (h : VRs K I ad vs ps) {v : V} {p : PV} (hv : VR K I ad v p) (n : Nat) : VRs K I ad (vs.set n v) (ps.set n p) := by
  induction n generalizing vs ps with
  | zero => cases h with
    | nil => exact .nil
    | cons _ hs => exact .cons hv hs
  | succ n ih => cases h with
    | nil => exact .nil
    | cons h hs => exact .cons h (ih hs)
theorem VRs.dropLast {vs : List V} {ps : List PV} (h : VRs K I ad vs ps) : VRs K I ad vs.dropLast ps.dropLast := by
  rw [List.dropLast_eq_take, List.dropLast_eq_take, h.length]
  exact h.take _
theorem VRs.flat {vs : List V} {ps : List PV} (h : VRs K I ad vs ps) : ∀ n : Nat, VRs K I ad (List.replicate n vs).flatten (List.replicate n ps).flatten
  | 0 => .nil
  | n + 1 => by
    rw [List.replicate_succ, List.flatten_cons, List.replicate_succ, List.flatten_cons]
    exact h.append (h.flat n)
theorem VRs.ints (ns : List Int) : VRs K I ad (ns.map V.int) (ns.map PV.int) := by
  induction ns with
  | nil => exact .nil
  | cons n ns ih => exact .cons (.int n) ih
theorem VRs.ints_of {vs : List V} {ns : List Int} (h : VRs K I ad vs (ns.map PV.int)) : vs = ns.map V.int := by
  induction ns generalizing vs with
  | nil => cases h; rfl
  | cons n ns ih => cases h with
    | cons h hs =>
      cases h
      rw [ih hs]; rfl
theorem VRs.bls_of {vs : List V} {ns : List Bool} (h : VRs K I ad vs (ns.map PV.bl)) : vs = ns.map V.bl := by
  induction ns generalizing vs with
  | nil => cases h; rfl
  | cons n ns ih => cases h with
    | cons h hs =>
      cases h
      rw [ih hs]; rfl
theorem VRs.cut {vs : List V} {ps : List PV} (h : VRs K I ad vs ps) (lo hi : Option Int) : VRs K I ad (cutV vs lo hi) ((ps.drop (HT.sIx ps.length 0 lo)).take (HT.sIx ps.length ps.length hi - HT.sIx ps.length 0 lo)) := by
  unfold cutV
  rw [h.length]
  exact (h.drop _).take _
/-- own objects -/
inductive OR (K : PySem.W.Frag) (I : Hp) (ad : List Addr) : HO → AO → Prop where
  | lst {us : List V} {xs : List PV} : VRs K I ad us xs → OR K I ad (.lst us) (.lst xs)
theorem OR.up (l : W.Lo W') {o : HO} {a : AO} (h : OR K W.I W.ad o a) : OR K W'.I W'.ad o a := by
  cases h with
  | lst h => exact .lst (h.up l)
structure In (K : PySem.W.Frag) (W : Wd) (S : Sto) (H : Hp) : Prop where
  ex : ∃ os : List HO, Own W.I (W.ad.zip os ++ W.fr) H ∧ os.length = W.ad.length ∧ os.length = S.length ∧ ∀ (k : Nat) (o : HO) (a : AO), os[k]? = some o → S[k]? = some a → OR K W.I W.ad o a
/-- what is known of the state beside the own objects' contents -/
theorem In.view {S : Sto} {H : Hp} (h : In K W S H) : ∃ ps, Sta .own W.I ps H ∧ ∀ J H2, Ex W.I J → Sta .own J ps H2 → In K ⟨J, W.ad, W.fr⟩ S H2 ∧ W.Le ⟨J, W.ad, W.fr⟩ := by
  obtain ⟨os, O, h1, h2, h3⟩ := h.ex
  refine ⟨_, O, fun J H2 e O2 => ?_⟩
  have l : W.Le ⟨J, W.ad, W.fr⟩ := ⟨⟨e, fun _ _ h => h⟩, rfl⟩
  exact ⟨⟨os, O2, h1, h2, fun k o a q1 q2 => (h3 k o a q1 q2).up l.toLo⟩, l⟩
theorem In.exH {S : Sto} {H : Hp} (h : In K W S H) : Ex W.I H := let ⟨_, O, _⟩ := h.ex; O.ex
theorem zip_get {α β : Type} {xs : List α} {ys : List β} {k : Nat} {x : α} {y : β} (h1 : xs[k]? = some x) (h2 : ys[k]? = some y) : (xs.zip ys)[k]? = some (x, y) := by
  rw [List.getElem?_zip_eq_some]
  exact ⟨h1, h2⟩
/-- an own list: where it stands, what it holds; it may be changed -/
theorem In.at {S : Sto} {H : Hp} (h : In K W S H) {v : V} {k : Nat} {xs : List PV} (hv : VR K W.I W.ad v (.own k)) (hk : S[k]? = some (.lst xs)) :
    ∃ a us, v = .ref a ∧ H a = some (.lst us) ∧ VRs K W.I W.ad us xs ∧ ∀ us' xs', VRs K W.I W.ad us' xs' → In K W (S.set k (.lst xs')) (upd H a (.lst us')) := by
  obtain ⟨os, O, h1, h2, h3⟩ := h.ex
  cases hv with
  | own ha =>
    rename_i a
    have hlt : k < os.length := by rw [h2]; exact (List.getElem?_eq_some_iff.mp hk).1
    have ho : os[k]? = some os[k] := List.getElem?_eq_getElem hlt
    have hr := h3 k _ _ ho hk
    generalize os[k] = o at ho hr
    cases hr with
    | lst hr =>
      rename_i us
      have hz : (W.ad.zip os ++ W.fr)[k]? = some (a, .lst us) := by
        rw [List.getElem?_append_left (by rw [List.length_zip, ← h1, Nat.min_self]; exact hlt)]
        exact zip_get ha ho
      refine ⟨a, us, rfl, O.ix hz, hr, fun us' xs' hr' => ⟨os.set k (.lst us'), ?_, by rw [List.length_set]; exact h1, by rw [List.length_set, List.length_set]; exact h2, fun j o2 a2 q1 q2 => ?_⟩⟩
      · have O2 := O.set (u := .lst us') hz
        have e : (W.ad.zip os ++ W.fr).set k (a, .lst us') = W.ad.zip (os.set k (.lst us')) ++ W.fr := by
          rw [List.set_append_left _ _ (by rw [List.length_zip, ← h1, Nat.min_self]; exact hlt)]
          congr 1
          apply List.ext_getElem?
          intro j
          rw [List.getElem?_set]
          split
          · rename_i e
            subst e
            rw [if_pos (by rw [List.length_zip, ← h1, Nat.min_self]; exact hlt)]
            exact (zip_get ha (by rw [List.getElem?_set_self hlt])).symm
          · rename_i e
            simp only [List.zip, List.getElem?_zipWith, List.getElem?_set_ne e]
        rw [← e]
        exact O2
      · rw [List.getElem?_set] at q1 q2
        by_cases e : k = j
        · subst e
          rw [if_pos rfl, if_pos hlt] at q1
          rw [if_pos rfl, if_pos (by rw [← h2]; exact hlt)] at q2
          cases q1
          cases q2
          exact .lst hr'
        · rw [if_neg e] at q1 q2
          exact h3 j o2 a2 q1 q2
/-- a new own list -/
theorem In.own {S : Sto} {H : Hp} (h : In K W S H) {p : Addr} {us : List V} {xs : List PV} (hp : H p = none) (hr : VRs K W.I W.ad us xs) :
    In K ⟨W.I, W.ad ++ [p], W.fr⟩ (S ++ [.lst xs]) (upd H p (.lst us)) ∧ W.Le ⟨W.I, W.ad ++ [p], W.fr⟩ ∧ VR K W.I (W.ad ++ [p]) (.ref p) (.own S.length) := by
  obtain ⟨os, O, h1, h2, h3⟩ := h.ex
  have l : W.Le ⟨W.I, W.ad ++ [p], W.fr⟩ := ⟨⟨Ex.refl _, fun k a e => by
    show (W.ad ++ [p])[k]? = some a
    rw [List.getElem?_append_left (List.getElem?_eq_some_iff.mp e).1]; exact e⟩, rfl⟩
  refine ⟨⟨os ++ [.lst us], ?_, by simp [h1], by simp [h2], fun k o a q1 q2 => ?_⟩, l, .own (by rw [← h2, h1]; simp)⟩
  · have O2 := O.own (o := .lst us) hp
    refine O2.perm ?_
    rw [List.zip_append h1.symm, List.append_assoc]
    exact List.perm_middle
  · by_cases e : k < os.length
    · rw [List.getElem?_append_left e] at q1
      rw [List.getElem?_append_left (by rw [← h2]; exact e)] at q2
      exact (h3 k o a q1 q2).up l.toLo
    · rw [List.getElem?_append_right (by omega)] at q1
      rw [List.getElem?_append_right (by omega), ← h2] at q2
      cases z : k - os.length with
      | zero =>
        rw [z] at q1 q2
        cases q1
        cases q2
        exact .lst (VRs.up l.toLo hr)
      | succ n => rw [z] at q1; cases q1
/-- a list under way, beside all -/
theorem In.push {S : Sto} {H : Hp} (h : In K W S H) {p : Addr} {o : HO} (hp : H p = none) : In K ⟨W.I, W.ad, (p, o) :: W.fr⟩ S (upd H p o) := by
  obtain ⟨os, O, h1, h2, h3⟩ := h.ex
  exact ⟨os, (O.own hp).perm List.perm_middle, h1, h2, h3⟩
theorem In.pop {I : Hp} {ad : List Addr} {fr : PL} {p : Addr} {o : HO} {S : Sto} {H : Hp} (h : In K ⟨I, ad, (p, o) :: fr⟩ S H) : H p = some o ∧ ∀ u, In K ⟨I, ad, (p, u) :: fr⟩ S (upd H p u) := by
  obtain ⟨os, O, h1, h2, h3⟩ := h.ex
  have O1 : Own I ((p, o) :: (ad.zip os ++ fr)) H := O.perm List.perm_middle.symm
  refine ⟨O1.ix (i := 0) rfl, fun u => ⟨os, ?_, h1, h2, h3⟩⟩
  exact (O1.set (i := 0) (u := u) rfl).perm List.perm_middle
/-- it is done: it stays as it is; it is one's own -/
theorem In.fin {I : Hp} {ad : List Addr} {fr : PL} {p : Addr} {us : List V} {xs : List PV} {S : Sto} {H : Hp} (h : In K ⟨I, ad, (p, .lst us) :: fr⟩ S H) (hr : VRs K I ad us xs) :
    In K ⟨upd I p (.lst us), ad, fr⟩ S H ∧ Wd.Lo ⟨I, ad, fr⟩ ⟨upd I p (.lst us), ad, fr⟩ ∧ VR K (upd I p (.lst us)) ad (.ref p) (.lst xs) := by
  obtain ⟨os, O, h1, h2, h3⟩ := h.ex
  have O1 : Own I ((p, .lst us) :: (ad.zip os ++ fr)) H := O.perm List.perm_middle.symm
  have l : Wd.Lo ⟨I, ad, fr⟩ ⟨upd I p (.lst us), ad, fr⟩ := ⟨O1.exf, fun _ _ e => e⟩
  exact ⟨⟨os, O1.freeze, h1, h2, fun k o a q1 q2 => (h3 k o a q1 q2).up l⟩, l, .lst upd_same (hr.up l)⟩
theorem In.finO {I : Hp} {ad : List Addr} {fr : PL} {p : Addr} {us : List V} {xs : List PV} {S : Sto} {H : Hp} (h : In K ⟨I, ad, (p, .lst us) :: fr⟩ S H) (hr : VRs K I ad us xs) :
    In K ⟨I, ad ++ [p], fr⟩ (S ++ [.lst xs]) H ∧ Wd.Lo ⟨I, ad, fr⟩ ⟨I, ad ++ [p], fr⟩ ∧ VR K I (ad ++ [p]) (.ref p) (.own S.length) := by
  obtain ⟨os, O, h1, h2, h3⟩ := h.ex
  have h1 : os.length = ad.length := h1
  have l : Wd.Lo ⟨I, ad, fr⟩ ⟨I, ad ++ [p], fr⟩ := ⟨Ex.refl _, fun k a e => by
    show (ad ++ [p])[k]? = some a
    rw [List.getElem?_append_left (List.getElem?_eq_some_iff.mp e).1]; exact e⟩
  refine ⟨⟨os ++ [.lst us], ?_, by simp [h1], by simp [h2], fun k o a q1 q2 => ?_⟩, l, .own (by rw [← h2, h1]; simp)⟩
  · have O1 : Own I ((p, .lst us) :: (ad.zip os ++ fr)) H := O.perm List.perm_middle.symm
    refine O1.perm ?_
    show ((ad ++ [p]).zip (os ++ [HO.lst us]) ++ fr).Perm _
    rw [List.zip_append h1.symm, List.append_assoc]
    exact List.perm_middle
  · by_cases e : k < os.length
    · rw [List.getElem?_append_left e] at q1
      rw [List.getElem?_append_left (by rw [← h2]; exact e)] at q2
      exact (h3 k o a q1 q2).up l
    · rw [List.getElem?_append_right (by omega)] at q1
      rw [List.getElem?_append_right (by omega), ← h2] at q2
      cases z : k - os.length with
      | zero =>
        rw [z] at q1 q2
        cases q1
        cases q2
        exact .lst (VRs.up l hr)
      | succ n => rw [z] at q1; cases q1
/-- the environment; none: nothing is known -/
inductive ER (K : PySem.W.Frag) (W : Wd) : St → AEnv → Prop where
  | nil : ER K W [] []
  | any {x : Option V} {σ : St} {ρ : AEnv} : ER K W σ ρ → ER K W (x :: σ) (none :: ρ)
  | cons {v : V} {p : PV} {σ : St} {ρ : AEnv} : VR K W.I W.ad v p → ER K W σ ρ → ER K W (some v :: σ) (some p :: ρ)
theorem ER.up (l : W.Lo W') {σ : St} {ρ : AEnv} (h : ER K W σ ρ) : ER K W' σ ρ := by
  induction h with
  | nil => exact .nil
  | any _ ih => exact .any ih
  | cons h _ ih => exact .cons (h.up l) ih
@[reducible] def look : AEnv → Nat → Option PV
  | [], _ => none
  | x :: _, 0 => x
  | _ :: r, n + 1 => look r n
@[reducible] def put : AEnv → Nat → PV → AEnv
  | [], _, _ => []
  | _ :: r, 0, p => some p :: r
  | x :: r, n + 1, p => x :: put r n p
@[reducible] def hide : AEnv → Nat → AEnv
  | [], _ => []
  | _ :: r, 0 => none :: r
  | x :: r, n + 1 => x :: hide r n
@[reducible] def hides : AEnv → List Nat → AEnv
  | ρ, [] => ρ
  | ρ, v :: vs => hide (hides ρ vs) v
theorem ER.look {σ : St} {ρ : AEnv} (h : ER K W σ ρ) : ∀ {i : Nat} {p : PV}, look ρ i = some p → ∃ v, σ[i]? = some (some v) ∧ VR K W.I W.ad v p := by
  induction h with
  | nil => intro i p e; cases e
  | any _ ih =>
    intro i p e
    cases i with
    | zero => cases e
    | succ i => exact ih e
  | cons h _ ih =>
    intro i p e
    cases i with
    | zero => cases e; exact ⟨_, rfl, h⟩
    | succ i => exact ih e
theorem ER.put {σ : St} {ρ : AEnv} (h : ER K W σ ρ) {v : V} {p : PV} (hv : VR K W.I W.ad v p) : ∀ i : Nat, ER K W (σ.set i (some v)) (put ρ i p) := by
  induction h with
  | nil => intro i; exact .nil
  | any h ih =>
    intro i
    cases i with
    | zero => exact .cons hv h
    | succ i => exact .any (ih i)
  | cons h hs ih =>
    intro i
    cases i with
    | zero => exact .cons hv hs
    | succ i => exact .cons h (ih i)
theorem ER.hide {σ : St} {ρ : AEnv} (h : ER K W σ ρ) : ∀ i : Nat, ER K W (σ.set i none) (hide ρ i) := by
  induction h with
  | nil => intro i; exact .nil
  | any h ih =>
    intro i
    cases i with
    | zero => exact .any h
    | succ i => exact .any (ih i)
  | cons h hs ih =>
    intro i
    cases i with
    | zero => exact .any hs
    | succ i => exact .cons h (ih i)
theorem ER.wipe {σ : St} {ρ : AEnv} (h : ER K W σ ρ) : ∀ vs : List Nat, ER K W (wipe σ vs) (hides ρ vs)
  | [] => h
  | v :: vs => (h.wipe vs).hide v
/-- weaker environments -/
inductive EW : AEnv → AEnv → Prop where
  | nil : EW [] []
  | any {x : Option PV} {ρ ρ' : AEnv} : EW ρ ρ' → EW (x :: ρ) (none :: ρ')
  | cons {x : Option PV} {ρ ρ' : AEnv} : EW ρ ρ' → EW (x :: ρ) (x :: ρ')
theorem ER.weak {σ : St} {ρ ρ' : AEnv} (h : ER K W σ ρ) (w : EW ρ ρ') : ER K W σ ρ' := by
  induction h generalizing ρ' with
  | nil => cases w; exact .nil
  | any h ih =>
    cases w with
    | any w => exact .any (ih w)
    | cons w => exact .any (ih w)
  | cons h hs ih =>
    cases w with
    | any w => exact .any (ih w)
    | cons w => exact .cons h (ih w)
end
end L4

/-! readings over trees: expressions. -/
namespace L4
open PySem PySem.Spec PyProof.Rows L2 L3
abbrev AV := PV → Sto → Prop
abbrev ATE := AEnv → Sto → AV → Prop
abbrev ATT := AEnv → Sto → (Bool → Sto → Prop) → Prop
abbrev ATA := AEnv → Sto → (List PV → Sto → Prop) → Prop
abbrev A1 := PV → Sto → AV → Prop
abbrev A2 := PV → PV → Sto → AV → Prop
abbrev AL := List PV → Sto → AV → Prop
abbrev AM := PV → List PV → Sto → AV → Prop
section
variable (K : PySem.W.Frag) (W : Wd)
def CE (P : AV) (Q : VK) : Prop := ∀ W' S v p H, W.Le W' → In K W' S H → VR K W'.I W'.ad v p → P p S → Q v H
def CT (P : Bool → Sto → Prop) (Q : Bool → Hp → Prop) : Prop := ∀ W' S b H, W.Le W' → In K W' S H → P b S → Q b H
def CA (P : List PV → Sto → Prop) (Q : List V → Hp → Prop) : Prop := ∀ W' S vs ps H, W.Le W' → In K W' S H → VRs K W'.I W'.ad vs ps → P ps S → Q vs H
end
section
variable (K : PySem.W.Frag)
structure SE (te : TE) (f : ATE) : Prop where
  run : ∀ {W S σ ρ H Q P}, In K W S H → ER K W σ ρ → f ρ S P → CE K W P Q → te σ H Q
structure STs (tt : TT) (f : ATT) : Prop where
  run : ∀ {W S σ ρ H Q P}, In K W S H → ER K W σ ρ → f ρ S P → CT K W P Q → tt σ H Q
structure SA (ta : TA) (f : ATA) : Prop where
  run : ∀ {W S σ ρ H Q P}, In K W S H → ER K W σ ρ → f ρ S P → CA K W P Q → ta σ H Q
structure S1 (r : V → Hp → VK → Prop) (f : A1) : Prop where
  run : ∀ {W S x p H Q P}, In K W S H → VR K W.I W.ad x p → f p S P → CE K W P Q → r x H Q
structure SO (r : R2) (f : A2) : Prop where
  run : ∀ {W S x y p q H Q P}, In K W S H → VR K W.I W.ad x p → VR K W.I W.ad y q → f p q S P → CE K W P Q → r x y H Q
structure SL (r : List V → Hp → VK → Prop) (f : AL) : Prop where
  run : ∀ {W S xs ps H Q P}, In K W S H → VRs K W.I W.ad xs ps → f ps S P → CE K W P Q → r xs H Q
structure SM (r : V → List V → Hp → VK → Prop) (f : AM) : Prop where
  run : ∀ {W S x p xs ps H Q P}, In K W S H → VR K W.I W.ad x p → VRs K W.I W.ad xs ps → f p ps S P → CE K W P Q → r x xs H Q
end
section
variable {K : PySem.W.Frag} {W W' : Wd} {S : Sto} {H : Hp} {P : AV} {Q : VK}
theorem CE.up (l : W.Le W') (c : CE K W P Q) : CE K W' P Q := fun W2 S v p H k I r h => c W2 S v p H (l.trans k) I r h
theorem CT.up {P : Bool → Sto → Prop} {Q : Bool → Hp → Prop} (l : W.Le W') (c : CT K W P Q) : CT K W' P Q := fun W2 S b H k I h => c W2 S b H (l.trans k) I h
theorem CA.up {P : List PV → Sto → Prop} {Q : List V → Hp → Prop} (l : W.Le W') (c : CA K W P Q) : CA K W' P Q := fun W2 S vs ps H k I r h => c W2 S vs ps H (l.trans k) I r h
theorem CE.at (c : CE K W P Q) (I : In K W S H) {v : V} {p : PV} (r : VR K W.I W.ad v p) (h : P p S) : Q v H := c W S v p H (.refl W) I r h
/-! what is made anew -/
theorem In.newT (I : In K W S H) {us : List V} {xs : List PV} (r : VRs K W.I W.ad us xs) (c : CE K W P Q) (h : P (.tup xs) S) : NewT us H Q := by
  obtain ⟨ps, O, gr⟩ := I.view
  refine O.newT fun p J H2 O2 e hp => ?_
  obtain ⟨I2, l⟩ := gr J H2 e O2
  exact c _ S _ _ H2 l I2 (.tup hp (r.up l.toLo)) h
theorem In.newL (I : In K W S H) {us : List V} {xs : List PV} (r : VRs K W.I W.ad us xs) (c : CE K W P Q) (h : P (.lst xs) S) : ∀ p, H p = none → Q (.ref p) (upd H p (.lst us)) := by
  obtain ⟨ps, O, gr⟩ := I.view
  refine O.newO fun p J H2 O2 e hp => ?_
  obtain ⟨I2, l⟩ := gr J H2 e O2
  exact c _ S _ _ H2 l I2 (.lst hp (r.up l.toLo)) h
theorem In.newO (I : In K W S H) {us : List V} {xs : List PV} (r : VRs K W.I W.ad us xs) (c : CE K W P Q) (h : P (.own S.length) (S ++ [.lst xs])) : ∀ p, H p = none → Q (.ref p) (upd H p (.lst us)) := fun p hp => by
  obtain ⟨I2, l, r2⟩ := I.own hp r
  exact c _ _ _ _ _ l I2 r2 h
/-! lists, own or not -/
@[reducible] def sget : Sto → Nat → Option (List PV)
  | [], _ => none
  | .lst xs :: _, 0 => some xs
  | _ :: r, n + 1 => sget r n
@[reducible] def sput : Sto → Nat → List PV → Sto
  | [], _, _ => []
  | _ :: r, 0, xs => .lst xs :: r
  | o :: r, n + 1, xs => o :: sput r n xs
theorem sget_eq : ∀ {S : Sto} {k : Nat} {xs : List PV}, sget S k = some xs → S[k]? = some (.lst xs)
  | [], _, _, h => by cases h
  | .lst ys :: _, 0, xs, h => by cases h; rfl
  | _ :: r, n + 1, xs, h => sget_eq (S := r) h
theorem sput_eq : ∀ (S : Sto) (k : Nat) (xs : List PV), sput S k xs = S.set k (.lst xs)
  | [], _, _ => rfl
  | _ :: r, 0, xs => rfl
  | o :: r, n + 1, xs => by
    show o :: sput r n xs = o :: r.set n _
    rw [sput_eq r n xs]
@[reducible] def lv (p : PV) (S : Sto) : Option (List PV) := match p with
  | .lst xs => some xs
  | .scr ns => some (ns.map .int)
  | .own k => sget S k
  | _ => none
@[reducible] def sq (p : PV) (S : Sto) : Option (List PV) := match p with
  | .tup xs => some xs
  | .lst xs => some xs
  | .scr ns => some (ns.map .int)
  | .own k => sget S k
  | _ => none
theorem VR.lv (I : In K W S H) {v : V} {p : PV} (r : VR K W.I W.ad v p) {xs : List PV} (e : lv p S = some xs) : ∃ a us, v = .ref a ∧ SqL K H a us ∧ VRs K W.I W.ad us xs := by
  cases r with
  | lst h hs => cases e; exact ⟨_, _, rfl, SqL.of (I.exH _ _ h), hs⟩
  | scr h => cases e; exact ⟨_, _, rfl, SqL.up I.exH h, VRs.ints _⟩
  | own h =>
    obtain ⟨a, us, e1, e2, hs, _⟩ := I.at (.own h) (sget_eq e)
    cases e1
    exact ⟨_, _, rfl, SqL.of e2, hs⟩
  | non => cases e
  | bl b => cases e
  | int i => cases e
  | str x => cases e
  | tup _ _ => cases e
theorem VR.tupS (I : In K W S H) {v : V} {xs : List PV} (r : VR K W.I W.ad v (.tup xs)) : ∃ a us, v = .ref a ∧ SqT K H a us ∧ VRs K W.I W.ad us xs := by
  cases r with
  | tup h hs => exact ⟨_, _, rfl, TupF.sq (TupF.up I.exH h), hs⟩
theorem VR.sq (I : In K W S H) {v : V} {p : PV} (r : VR K W.I W.ad v p) {xs : List PV} (e : sq p S = some xs) : ∃ a us, v = .ref a ∧ (SqL K H a us ∨ SqT K H a us) ∧ VRs K W.I W.ad us xs := by
  cases p with
  | tup ys =>
    cases e
    obtain ⟨a, us, h1, h2, h3⟩ := r.tupS I
    exact ⟨a, us, h1, .inr h2, h3⟩
  | lst ys => obtain ⟨a, us, h1, h2, h3⟩ := r.lv I (xs := xs) e; exact ⟨a, us, h1, .inl h2, h3⟩
  | scr ys => obtain ⟨a, us, h1, h2, h3⟩ := r.lv I (xs := xs) e; exact ⟨a, us, h1, .inl h2, h3⟩
  | own ys => obtain ⟨a, us, h1, h2, h3⟩ := r.lv I (xs := xs) e; exact ⟨a, us, h1, .inl h2, h3⟩
  | non => cases e
  | bl b => cases e
  | int i => cases e
  | str x => cases e
/-- two ways -/
def br (c : Bool) (A B : Prop) : Prop := match c with
  | true => A
  | false => B
/-! expressions -/
@[reducible] def aVar (i : Nat) : ATE := fun ρ S P => match look ρ i with
  | some p => P p S
  | none => False
@[reducible] def aC (p : PV) : ATE := fun _ S P => P p S
@[reducible] def aOp (f : A2) (a b : ATE) : ATE := fun ρ S P => a ρ S fun x S1 => b ρ S1 fun y S2 => f x y S2 P
@[reducible] def aUn (f : A1) (a : ATE) : ATE := fun ρ S P => a ρ S fun x S1 => f x S1 P
@[reducible] def onB (p : PV) (P : Bool → Prop) : Prop := match p with
  | .bl c => P c
  | _ => False
theorem VR.onB {v : V} {p : PV} {I : Hp} {ad : List Addr} (r : VR K I ad v p) {P : Bool → Prop} (h : onB p P) : ∃ c, v = .bl c ∧ P c := by
  cases r with
  | bl b => exact ⟨b, rfl, h⟩
  | non => exact h.elim
  | int i => exact h.elim
  | str x => exact h.elim
  | tup _ _ => exact h.elim
  | lst _ _ => exact h.elim
  | scr _ => exact h.elim
  | own _ => exact h.elim
@[reducible] def aNotV (a : ATE) : ATE := fun ρ S P => a ρ S fun x S1 => onB x fun c => P (.bl (!c)) S1
@[reducible] def aAndV (a b : ATE) : ATE := fun ρ S P => a ρ S fun x S1 => onB x fun c => br c (b ρ S1 P) (P (.bl false) S1)
@[reducible] def aOrV (a b : ATE) : ATE := fun ρ S P => a ρ S fun x S1 => onB x fun c => br c (P (.bl true) S1) (b ρ S1 P)
@[reducible] def aIf (t : ATT) (a b : ATE) : ATE := fun ρ S P => t ρ S fun c S1 => br c (a ρ S1 P) (b ρ S1 P)
@[reducible] def aChain (f g : A2) (a b c : ATE) : ATE := fun ρ S P => a ρ S fun x S1 => b ρ S1 fun y S2 => f x y S2 fun z S3 => onB z fun k => br k (c ρ S3 fun w S4 => g y w S4 P) (P (.bl false) S3)
def aJoinE (a : ATE) : ATE := fun ρ S P => ∃ M : AV, a ρ S M ∧ ∀ p S1, M p S1 → P p S1
@[reducible] def aNil : ATA := fun _ S P => P [] S
@[reducible] def aCons (a : ATE) (r : ATA) : ATA := fun ρ S P => a ρ S fun x S1 => r ρ S1 fun xs S2 => P (x :: xs) S2
def onL (o : Option (List PV)) (P : List PV → Prop) : Prop := match o with
  | some xs => P xs
  | none => False
theorem onL_of {o : Option (List PV)} {P : List PV → Prop} (h : onL o P) : ∃ xs, o = some xs ∧ P xs := by
  cases o with
  | none => exact h.elim
  | some xs => exact ⟨xs, rfl, h⟩
@[reducible] def aStar (a : ATE) (r : ATA) : ATA := fun ρ S P => a ρ S fun x S1 => onL (sq x S1) fun xs => r ρ S1 fun ys S2 => P (xs ++ ys) S2
@[reducible] def aTup (t : ATA) : ATE := fun ρ S P => t ρ S fun xs S1 => xs.length ≤ sizeLine ∧ P (.tup xs) S1
@[reducible] def aLst (t : ATA) : ATE := fun ρ S P => t ρ S fun xs S1 => xs.length ≤ sizeLine ∧ P (.lst xs) S1
@[reducible] def aLstO (t : ATA) : ATE := fun ρ S P => t ρ S fun xs S1 => xs.length ≤ sizeLine ∧ P (.own S1.length) (S1 ++ [.lst xs])
variable {te ta tb tc : TE} {f fa fb fc : ATE} {tt : TT} {ft : ATT} {t : TA} {fs : ATA}
theorem se_var {i : Nat} : SE K (tVar i) (aVar i) := ⟨fun {W S σ ρ H Q P} I E h c => by
  unfold aVar at h
  cases e : look ρ i with
  | none => rw [e] at h; exact h.elim
  | some p =>
    rw [e] at h
    obtain ⟨v, h1, h2⟩ := E.look e
    exact ⟨v, h1, c.at I h2 h⟩⟩
theorem se_int {i : Int} : SE K (tC (.int i)) (aC (.int i)) := ⟨fun I _ h c => c.at I (.int i) h⟩
theorem se_bl {i : Bool} : SE K (tC (.bl i)) (aC (.bl i)) := ⟨fun I _ h c => c.at I (.bl i) h⟩
theorem se_non : SE K (tC .non) (aC .non) := ⟨fun I _ h c => c.at I .non h⟩
theorem se_str {i : Str} : SE K (tC (.str i)) (aC (.str i)) := ⟨fun I _ h c => c.at I (.str i) h⟩
theorem se_op {r : R2} {g : A2} (hr : SO K r g) (ha : SE K ta fa) (hb : SE K tb fb) : SE K (tOp r ta tb) (aOp g fa fb) := ⟨fun I E h c =>
  ha.run I E h fun W1 S1 x p H1 l1 I1 r1 h1 => hb.run I1 (E.up l1.toLo) h1 fun W2 S2 y q H2 l2 I2 r2 h2 => hr.run I2 (r1.up l2.toLo) r2 h2 (c.up (l1.trans l2))⟩
theorem se_un {r : V → Hp → VK → Prop} {g : A1} (hr : S1 K r g) (ha : SE K ta fa) : SE K (tUn r ta) (aUn g fa) := ⟨fun I E h c =>
  ha.run I E h fun W1 S1 x p H1 l1 I1 r1 h1 => hr.run I1 r1 h1 (c.up l1)⟩
theorem se_notV (ha : SE K ta fa) : SE K (tNotV ta) (aNotV fa) := ⟨fun I E h c =>
  ha.run I E h fun W1 S1 x p H1 l1 I1 r1 h1 => by
    obtain ⟨k, e, h2⟩ := r1.onB h1
    exact ⟨k, e, c _ _ _ _ _ l1 I1 (.bl _) h2⟩⟩
theorem se_andV (ha : SE K ta fa) (hb : SE K tb fb) : SE K (tAndV ta tb) (aAndV fa fb) := ⟨fun I E h c =>
  ha.run I E h fun W1 S1 x p H1 l1 I1 r1 h1 => by
    obtain ⟨k, e, h2⟩ := r1.onB h1
    refine ⟨k, e, ?_⟩
    cases k with
    | true => rw [if_pos rfl]; exact hb.run I1 (E.up l1.toLo) h2 (c.up l1)
    | false => rw [if_neg Bool.false_ne_true]; exact c _ _ _ _ _ l1 I1 (.bl _) h2⟩
theorem se_orV (ha : SE K ta fa) (hb : SE K tb fb) : SE K (tOrV ta tb) (aOrV fa fb) := ⟨fun I E h c =>
  ha.run I E h fun W1 S1 x p H1 l1 I1 r1 h1 => by
    obtain ⟨k, e, h2⟩ := r1.onB h1
    refine ⟨k, e, ?_⟩
    cases k with
    | true => rw [if_pos rfl]; exact c _ _ _ _ _ l1 I1 (.bl _) h2
    | false => rw [if_neg Bool.false_ne_true]; exact hb.run I1 (E.up l1.toLo) h2 (c.up l1)⟩
theorem se_if (ht : STs K tt ft) (ha : SE K ta fa) (hb : SE K tb fb) : SE K (tIf tt ta tb) (aIf ft fa fb) := ⟨fun I E h c =>
  ht.run I E h fun W1 S1 k H1 l1 I1 h1 => by
    cases k with
    | true => rw [if_pos rfl]; exact ha.run I1 (E.up l1.toLo) h1 (c.up l1)
    | false => rw [if_neg Bool.false_ne_true]; exact hb.run I1 (E.up l1.toLo) h1 (c.up l1)⟩
theorem se_chain {r r' : R2} {g g' : A2} (hr : SO K r g) (hr' : SO K r' g') (ha : SE K ta fa) (hb : SE K tb fb) (hc : SE K tc fc) : SE K (tChain r r' ta tb tc) (aChain g g' fa fb fc) := ⟨fun {W S σ ρ H Q P} I E h c =>
  ha.run I E h fun W1 S1 x p H1 l1 I1 r1 h1 => hb.run I1 (E.up l1.toLo) h1 fun W2 S2 y q H2 l2 I2 r2 h2 => hr.run I2 (r1.up l2.toLo) r2 h2 fun W3 S3 z pz H3 l3 I3 r3 h3 => by
    have l := (l1.trans l2).trans l3
    obtain ⟨k, e, h4⟩ := r3.onB h3
    refine ⟨k, e, ?_⟩
    cases k with
    | true =>
      rw [if_pos rfl]
      exact hc.run I3 (E.up l.toLo) h4 fun W4 S4 w pw H4 l4 I4 r4 h5 => hr'.run I4 (r2.up (l3.trans l4).toLo) r4 h5 (c.up (l.trans l4))
    | false => rw [if_neg Bool.false_ne_true]; exact c _ _ _ _ _ l I3 (.bl _) h4⟩
theorem se_join (ha : SE K ta fa) : SE K (tJoinE ta) (aJoinE fa) := ⟨fun {W S σ ρ H Q P} I E ⟨M, h, k⟩ c =>
  ⟨Q, ha.run I E h fun W1 S1 x p H1 l1 I1 r1 h1 => c _ _ _ _ _ l1 I1 r1 (k p S1 h1), fun _ _ q => q⟩⟩
theorem sa_nil : SA K tNil aNil := ⟨fun I _ h c => c _ _ _ _ _ (.refl _) I .nil h⟩
theorem sa_cons (ha : SE K ta fa) (hr : SA K t fs) : SA K (tCons ta t) (aCons fa fs) := ⟨fun I E h c =>
  ha.run I E h fun W1 S1 x p H1 l1 I1 r1 h1 => hr.run I1 (E.up l1.toLo) h1 fun W2 S2 xs ps H2 l2 I2 r2 h2 => c _ _ _ _ _ (l1.trans l2) I2 (.cons (r1.up l2.toLo) r2) h2⟩
theorem sa_star (ha : SE K ta fa) (hr : SA K t fs) : SA K (tStar K ta t) (aStar fa fs) := ⟨fun I E h c =>
  ha.run I E h fun W1 S1 x p H1 l1 I1 r1 h1 => by
    obtain ⟨xs, e, h2⟩ := onL_of h1
    obtain ⟨a, us, e2, hq, rs⟩ := r1.sq I1 e
    refine ⟨a, us, e2, hq.symm, ?_⟩
    exact hr.run I1 (E.up l1.toLo) h2 fun W2 S2 ys ps H2 l2 I2 r2 h3 => c _ _ _ _ _ (l1.trans l2) I2 ((rs.up l2.toLo).append r2) h3⟩
theorem se_tup (hr : SA K t fs) : SE K (tTupF t) (aTup fs) := ⟨fun I E h c =>
  hr.run I E h fun W1 S1 xs ps H1 l1 I1 r1 ⟨hz, h1⟩ => ⟨by rw [r1.length]; exact hz, I1.newT r1 (c.up l1) h1⟩⟩
theorem se_lst (hr : SA K t fs) : SE K (tLst t) (aLst fs) := ⟨fun I E h c =>
  hr.run I E h fun W1 S1 xs ps H1 l1 I1 r1 ⟨hz, h1⟩ => ⟨by rw [r1.length]; exact hz, I1.newL r1 (c.up l1) h1⟩⟩
theorem se_lstO (hr : SA K t fs) : SE K (tLst t) (aLstO fs) := ⟨fun I E h c =>
  hr.run I E h fun W1 S1 xs ps H1 l1 I1 r1 ⟨hz, h1⟩ => ⟨by rw [r1.length]; exact hz, I1.newO r1 (c.up l1) h1⟩⟩
/-! tests -/
@[reducible] def aTest (a : ATE) : ATT := fun ρ S P => a ρ S fun x S1 => onB x fun c => P c S1
@[reducible] def aAnd (a b : ATT) : ATT := fun ρ S P => a ρ S fun c S1 => br c (b ρ S1 P) (P false S1)
@[reducible] def aOr (a b : ATT) : ATT := fun ρ S P => a ρ S fun c S1 => br c (P true S1) (b ρ S1 P)
@[reducible] def aNot (a : ATT) : ATT := fun ρ S P => a ρ S fun c S1 => P (!c) S1
@[reducible] def aYes : ATT := fun _ S P => P true S
@[reducible] def truth (p : PV) (S : Sto) (P : Bool → Prop) : Prop := match p with
  | .non => P false
  | .bl c => P c
  | .int i => P (i != 0)
  | .tup xs => P (!xs.isEmpty)
  | .lst xs => P (!xs.isEmpty)
  | .own k => onL (sget S k) fun xs => P (!xs.isEmpty)
  | _ => False
@[reducible] def aTruth (a : ATE) : ATT := fun ρ S P => a ρ S fun x S1 => truth x S1 fun c => P c S1
variable {t1 t2 : TT} {f1 f2 : ATT}
theorem st_test (ha : SE K ta fa) : STs K (tTest ta) (aTest fa) := ⟨fun I E h c =>
  ha.run I E h fun W1 S1 x p H1 l1 I1 r1 h1 => by
    obtain ⟨k, e, h2⟩ := r1.onB h1
    exact ⟨k, e, c _ _ _ _ l1 I1 h2⟩⟩
theorem st_and (ha : STs K t1 f1) (hb : STs K t2 f2) : STs K (tAnd t1 t2) (aAnd f1 f2) := ⟨fun I E h c =>
  ha.run I E h fun W1 S1 k H1 l1 I1 h1 => by
    cases k with
    | true => rw [if_pos rfl]; exact hb.run I1 (E.up l1.toLo) h1 (c.up l1)
    | false => rw [if_neg Bool.false_ne_true]; exact c _ _ _ _ l1 I1 h1⟩
theorem st_or (ha : STs K t1 f1) (hb : STs K t2 f2) : STs K (tOr t1 t2) (aOr f1 f2) := ⟨fun I E h c =>
  ha.run I E h fun W1 S1 k H1 l1 I1 h1 => by
    cases k with
    | true => rw [if_pos rfl]; exact c _ _ _ _ l1 I1 h1
    | false => rw [if_neg Bool.false_ne_true]; exact hb.run I1 (E.up l1.toLo) h1 (c.up l1)⟩
theorem st_not (ha : STs K t1 f1) : STs K (tNot t1) (aNot f1) := ⟨fun I E h c => ha.run I E h fun W1 S1 k H1 l1 I1 h1 => c _ _ _ _ l1 I1 h1⟩
theorem st_yes : STs K tYes aYes := ⟨fun I _ h c => c _ _ _ _ (.refl _) I h⟩
theorem VRs.empty {I : Hp} {ad : List Addr} {us : List V} {xs : List PV} (r : VRs K I ad us xs) : us.isEmpty = xs.isEmpty := by cases r <;> rfl
theorem st_truth (ha : SE K ta fa) : STs K (tTruth K ta) (aTruth fa) := ⟨fun {W S σ ρ H Q P} I E h c =>
  ha.run I E h fun W1 S1 x p H1 l1 I1 r1 h1 => by
    have go : ∀ k, TruV K x H1 k → P k S1 → ∃ k, TruV K x H1 k ∧ Q k H1 := fun k a b => ⟨k, a, c _ _ _ _ l1 I1 b⟩
    have r0 := r1
    cases r1 with
    | non => exact go _ rfl h1
    | bl b => exact go _ rfl h1
    | int i => exact go _ rfl h1
    | str x => exact h1.elim
    | scr h => exact h1.elim
    | tup h hs =>
      obtain ⟨a, us, e, h2, h3⟩ := r0.tupS I1
      cases e
      exact go _ (.inr (.inl ⟨us, h2, by rw [h3.empty]⟩)) h1
    | lst h hs =>
      obtain ⟨a, us, e, h2, h3⟩ := r0.lv I1 rfl
      cases e
      exact go _ (.inl ⟨us, h2, by rw [h3.empty]⟩) h1
    | own h =>
      obtain ⟨xs, e, h2⟩ := onL_of h1
      obtain ⟨a, us, e2, h3, h4⟩ := r0.lv I1 (xs := xs) e
      cases e2
      exact go _ (.inl ⟨us, h3, by rw [h4.empty]⟩) h2⟩
end
end L4

/-! readings over trees: operations by values. -/
namespace L4
open PySem PySem.Spec PyProof.Rows L2 L3
section
variable {X : Cx}
def rAddF (K : PySem.W.Frag) : R2 := fun x y H Q => rI0 (fun i j => .int (i + j)) x y H Q ∨ rCatF K x y H Q ∨ rCat x y H Q ∨ (∃ i j, x = .str i ∧ y = .str j ∧ i.length + j.length ≤ sizeLine ∧ Q (.str (i ++ j)) H)
theorem kAddF {K : PySem.W.Frag} (hK : X.K = K := by rfl) : OpR X (binaryOp .Add) (rAddF K) := hK ▸ op_add.or (op_catF.or (op_cat.or op_add_str))
def rMulG (K : PySem.W.Frag) : R2 := fun x y H Q => rMulF K x y H Q ∨ rRep x y H Q
theorem kMulG {K : PySem.W.Frag} (hK : X.K = K := by rfl) : OpR X (binaryOp .Mult) (rMulG K) := (kMulF hK).or op_rep
def rSlG (K : PySem.W.Frag) : V → Option Int → Option Int → Hp → VK → Prop := fun x lo hi H Q => rSlL K x lo hi H Q ∨ rSlF K x lo hi H Q
theorem kSlG {K : PySem.W.Frag} (hK : X.K = K := by rfl) : SlR X (rSlG K) := hK ▸ sl_list.or sl_tupF
theorem kDivmodF : CallR X (.builtin "divmod") rDivmodF := call_divmodF
end
@[reducible] def onI (x : PV) (P : Int → Prop) : Prop := match x with
  | .int i => P i
  | _ => False
@[reducible] def onI2 (x y : PV) (P : Int → Int → Prop) : Prop := onI x fun i => onI y fun j => P i j
def onO {α : Type} (o : Option α) (P : α → Prop) : Prop := ∃ v, o = some v ∧ P v
section
variable {K : PySem.W.Frag} {W W' : Wd} {S : Sto} {H : Hp} {P : AV} {Q : VK} {I : Hp} {ad : List Addr}
theorem VR.onI {v : V} {p : PV} (r : VR K I ad v p) {P : Int → Prop} (h : onI p P) : ∃ i, v = .int i ∧ p = .int i ∧ P i := by
  cases r with
  | int i => exact ⟨i, rfl, rfl, h⟩
  | non => exact h.elim
  | bl i => exact h.elim
  | str x => exact h.elim
  | tup _ _ => exact h.elim
  | lst _ _ => exact h.elim
  | scr _ => exact h.elim
  | own _ => exact h.elim
theorem VR.onI2 {v w : V} {p q : PV} (r : VR K I ad v p) (r2 : VR K I ad w q) {P : Int → Int → Prop} (h : onI2 p q P) : ∃ i j, v = .int i ∧ w = .int j ∧ P i j := by
  obtain ⟨i, e, _, h⟩ := r.onI h
  obtain ⟨j, e2, _, h⟩ := r2.onI h
  exact ⟨i, j, e, e2, h⟩
@[reducible] def vI0 (g : Int → Int → Int) : A2 := fun x y S P => onI2 x y fun i j => P (.int (g i j)) S
@[reducible] def vI0b (g : Int → Int → Bool) : A2 := fun x y S P => onI2 x y fun i j => P (.bl (g i j)) S
@[reducible] def vI (C : Int → Int → Prop) (g : Int → Int → Int) : A2 := fun x y S P => onI2 x y fun i j => C i j ∧ P (.int (g i j)) S
theorem so_I0 {g : Int → Int → Int} : SO K (rI0 fun i j => .int (g i j)) (vI0 g) := ⟨fun I r1 r2 h c => by
  obtain ⟨i, j, e, e2, h⟩ := r1.onI2 r2 h
  exact ⟨i, j, e, e2, c.at I (.int _) h⟩⟩
theorem so_I0b {g : Int → Int → Bool} : SO K (rI0 fun i j => .bl (g i j)) (vI0b g) := ⟨fun I r1 r2 h c => by
  obtain ⟨i, j, e, e2, h⟩ := r1.onI2 r2 h
  exact ⟨i, j, e, e2, c.at I (.bl _) h⟩⟩
theorem so_I {C : Int → Int → Prop} {g : Int → Int → Int} : SO K (rI C fun i j => .int (g i j)) (vI C g) := ⟨fun I r1 r2 h c => by
  obtain ⟨i, j, e, e2, hc, h⟩ := r1.onI2 r2 h
  exact ⟨i, j, e, e2, hc, c.at I (.int _) h⟩⟩
theorem s1_neg {g : Int → Int} : S1 K (rU fun i => .int (g i)) (fun x S P => onI x fun i => P (.int (g i)) S) := ⟨fun I r h c => by
  obtain ⟨i, e, _, h⟩ := r.onI h
  exact ⟨i, e, c.at I (.int _) h⟩⟩
@[reducible] def vSub : A2 := fun x y S P => onI2 x y fun i j => P (.int (i - j)) S
@[reducible] def vAddI : A2 := fun x y S P => onI2 x y fun i j => P (.int (i + j)) S
@[reducible] def vMulI : A2 := fun x y S P => onI2 x y fun i j => CMul i j ∧ P (.int (i * j)) S
@[reducible] def vFdiv : A2 := fun x y S P => onI2 x y fun i j => CDiv i j ∧ P (.int (i / j)) S
@[reducible] def vMod : A2 := fun x y S P => onI2 x y fun i j => 0 < j ∧ P (.int (i % j)) S
@[reducible] def vPow : A2 := fun x y S P => onI2 x y fun i j => CPow i j ∧ P (.int (i ^ j.toNat)) S
@[reducible] def vLt : A2 := fun x y S P => onI2 x y fun i j => P (.bl (decide (i < j))) S
@[reducible] def vLe : A2 := fun x y S P => onI2 x y fun i j => P (.bl (decide (i ≤ j))) S
@[reducible] def vGt : A2 := fun x y S P => onI2 x y fun i j => P (.bl (decide (j < i))) S
@[reducible] def vGe : A2 := fun x y S P => onI2 x y fun i j => P (.bl (decide (j ≤ i))) S
@[reducible] def vNeg : A1 := fun x S P => onI x fun i => P (.int (-i)) S
theorem so_sub : SO K (rI0 fun i j => .int (i - j)) vSub := so_I0
theorem so_addI : SO K (rI0 fun i j => .int (i + j)) vAddI := so_I0
theorem so_mulI : SO K (rI CMul fun i j => .int (i * j)) vMulI := so_I
theorem so_fdiv : SO K (rI CDiv fun i j => .int (i / j)) vFdiv := so_I
theorem so_mod : SO K (rI (fun _ j => 0 < j) fun i j => .int (i % j)) vMod := so_I
theorem so_pow : SO K (rI CPow fun i j => .int (i ^ j.toNat)) vPow := so_I
theorem so_lt : SO K (rI0 fun i j => .bl (decide (i < j))) vLt := so_I0b
theorem so_le : SO K (rI0 fun i j => .bl (decide (i ≤ j))) vLe := so_I0b
theorem so_gt : SO K (rI0 fun i j => .bl (decide (j < i))) vGt := so_I0b
theorem so_ge : SO K (rI0 fun i j => .bl (decide (j ≤ i))) vGe := so_I0b
theorem s1_neg1 : S1 K (rU fun i => .int (-i)) vNeg := s1_neg
/-- a tracked list -/
theorem VR.lstH (I : In K W S H) {v : V} {p : PV} (r : VR K W.I W.ad v p) {xs : List PV} (e : L4.lv p S = some xs) (hn : ∀ ns, p ≠ .scr ns) : ∃ a us, v = .ref a ∧ H a = some (.lst us) ∧ VRs K W.I W.ad us xs := by
  cases r with
  | lst h hs => cases e; exact ⟨_, _, rfl, I.exH _ _ h, hs⟩
  | scr h => exact (hn _ rfl).elim
  | own h =>
    obtain ⟨a, us, e1, e2, hs, _⟩ := I.at (.own h) (sget_eq e)
    cases e1
    exact ⟨_, _, rfl, e2, hs⟩
  | non => cases e
  | bl b => cases e
  | int i => cases e
  | str x => cases e
  | tup _ _ => cases e
@[reducible] def vAdd : A2 := fun x y S P => match x, y with
  | .int i, .int j => P (.int (i + j)) S
  | .str i, .str j => i.length + j.length ≤ sizeLine ∧ P (.str (i ++ j)) S
  | .tup xs, .tup ys => xs.length + ys.length ≤ sizeLine ∧ P (.tup (xs ++ ys)) S
  | .lst xs, .lst ys => xs.length + ys.length ≤ sizeLine ∧ P (.lst (xs ++ ys)) S
  | .own k, .lst ys => onL (sget S k) fun xs => xs.length + ys.length ≤ sizeLine ∧ P (.lst (xs ++ ys)) S
  | .lst xs, .own k => onL (sget S k) fun ys => xs.length + ys.length ≤ sizeLine ∧ P (.lst (xs ++ ys)) S
  | .own j, .own k => onL (sget S j) fun xs => onL (sget S k) fun ys => xs.length + ys.length ≤ sizeLine ∧ P (.lst (xs ++ ys)) S
  | _, _ => False
theorem cat_lst (I : In K W S H) {v w : V} {p q : PV} (r1 : VR K W.I W.ad v p) (r2 : VR K W.I W.ad w q) {xs ys : List PV} (e1 : lv p S = some xs) (e2 : lv q S = some ys) (h1 : ∀ ns, p ≠ .scr ns) (h2 : ∀ ns, q ≠ .scr ns) (hz : xs.length + ys.length ≤ sizeLine) (h : P (.lst (xs ++ ys)) S) (c : CE K W P Q) : rAddF K v w H Q := by
  obtain ⟨a, us, rfl, ha, ra⟩ := r1.lstH I e1 h1
  obtain ⟨b, ws, rfl, hb, rb⟩ := r2.lstH I e2 h2
  exact .inr (.inr (.inl ⟨a, b, us, ws, rfl, rfl, ha, hb, by rw [ra.length, rb.length]; exact hz, I.newL (ra.append rb) c h⟩))
theorem so_add : SO K (rAddF K) vAdd := ⟨fun {W S x y p q H Q P} I r1 r2 h c => by
  unfold vAdd at h
  split at h
  · obtain ⟨i, rfl⟩ : ∃ i, x = .int i := by cases r1; exact ⟨_, rfl⟩
    cases r1
    cases r2
    exact .inl ⟨_, _, rfl, rfl, c.at I (.int _) h⟩
  · cases r1
    cases r2
    exact .inr (.inr (.inr ⟨_, _, rfl, rfl, h.1, c.at I (.str _) h.2⟩))
  · obtain ⟨a, us, rfl, ha, ra⟩ := r1.tupS I
    obtain ⟨b, ws, rfl, hb, rb⟩ := r2.tupS I
    obtain ⟨hz, h⟩ := h
    refine .inr (.inl ⟨a, b, us, ws, rfl, rfl, ha, hb, by rw [ra.length, rb.length]; exact hz, fun e => ?_, fun _ e => ?_, fun _ _ => I.newT (ra.append rb) c h⟩)
    · subst e
      cases ra
      exact c.at I r2 h
    · subst e
      cases rb
      rw [List.append_nil] at h
      exact c.at I r1 h
  · exact cat_lst I r1 r2 rfl rfl (fun _ e => nomatch e) (fun _ e => nomatch e) h.1 h.2 c
  · obtain ⟨xs, e, h⟩ := onL_of h
    exact cat_lst I r1 r2 e rfl (fun _ e => nomatch e) (fun _ e => nomatch e) h.1 h.2 c
  · obtain ⟨xs, e, h⟩ := onL_of h
    exact cat_lst I r1 r2 rfl e (fun _ e => nomatch e) (fun _ e => nomatch e) h.1 h.2 c
  · obtain ⟨xs, e, h⟩ := onL_of h
    obtain ⟨ys, e2, h⟩ := onL_of h
    exact cat_lst I r1 r2 e e2 (fun _ e => nomatch e) (fun _ e => nomatch e) h.1 h.2 c
  · exact h.elim⟩
@[reducible] def vMul : A2 := fun x y S P => match x, y with
  | .int i, .int j => CMul i j ∧ P (.int (i * j)) S
  | .tup xs, .int k => xs ≠ [] ∧ -1000 ≤ k ∧ k ≤ 1000 ∧ xs.length ≤ 1000 ∧ P (.tup (List.replicate k.toNat xs).flatten) S
  | .lst xs, .int k => -(2 ^ 63) ≤ k ∧ k < 2 ^ 63 ∧ xs.length * k.toNat ≤ sizeLine ∧ P (.lst (List.replicate k.toNat xs).flatten) S
  | _, _ => False
theorem so_mul : SO K (rMulG K) vMul := ⟨fun {W S x y p q H Q P} I r1 r2 h c => by
  unfold vMul at h
  split at h
  · cases r1
    cases r2
    exact .inl (.inl ⟨_, _, rfl, rfl, h.1, c.at I (.int _) h.2⟩)
  · rename_i xs k
    obtain ⟨a, us, rfl, ha, ra⟩ := r1.tupS I
    cases r2
    obtain ⟨h1, h2, h3, h4, h5⟩ := h
    refine .inl (.inr ⟨a, k, us, rfl, rfl, ha, fun e => h1 (by subst e; cases ra; rfl), h2, h3, by rw [ra.length]; exact h4, fun e => ?_, fun _ => I.newT (ra.flat _) c h5⟩)
    subst e
    have : (List.replicate (1 : Int).toNat xs).flatten = xs := by simp
    rw [this] at h5
    exact c.at I r1 h5
  · rename_i xs k
    obtain ⟨a, us, rfl, ha, ra⟩ := r1.lstH I rfl (fun _ e => nomatch e)
    cases r2
    obtain ⟨h1, h2, h3, h4⟩ := h
    exact .inr ⟨a, k, us, rfl, rfl, ha, h1, h2, by rw [ra.length]; exact h3, I.newL (ra.flat _) c h4⟩
  · exact h.elim⟩
/-- [x] * n, to be changed -/
@[reducible] def vMulO : A2 := fun x y S P => match x, y with
  | .lst xs, .int k => -(2 ^ 63) ≤ k ∧ k < 2 ^ 63 ∧ xs.length * k.toNat ≤ sizeLine ∧ P (.own S.length) (S ++ [.lst (List.replicate k.toNat xs).flatten])
  | _, _ => False
theorem so_mulO : SO K (rMulG K) vMulO := ⟨fun {W S x y p q H Q P} I r1 r2 h c => by
  unfold vMulO at h
  split at h
  · rename_i xs k
    obtain ⟨a, us, rfl, ha, ra⟩ := r1.lstH I rfl (fun _ e => nomatch e)
    cases r2
    obtain ⟨h1, h2, h3, h4⟩ := h
    exact .inr ⟨a, k, us, rfl, rfl, ha, h1, h2, by rw [ra.length]; exact h3, I.newO (ra.flat _) c h4⟩
  · exact h.elim⟩
/-! data -/
mutual
def dat : PV → PyData
  | .non => .none
  | .bl b => .bool b
  | .int i => .int i
  | .str x => .str x
  | .tup xs => .tuple (dats xs)
  | .lst xs => .list (dats xs)
  | .scr ns => .list (ns.map .int)
  | .own _ => .none
def dats : List PV → List PyData
  | [] => []
  | x :: xs => dat x :: dats xs
end
mutual
def nown : PV → Bool
  | .tup xs => nowns xs
  | .lst xs => nowns xs
  | .own _ => false
  | _ => true
def nowns : List PV → Bool
  | [] => true
  | x :: xs => nown x && nowns xs
end
theorem dats_map : ∀ xs : List PV, dats xs = xs.map dat
  | [] => rfl
  | x :: xs => by rw [dats, dats_map xs]; rfl
theorem nowns_all : ∀ xs : List PV, nowns xs = xs.all nown
  | [] => rfl
  | x :: xs => by rw [nowns, nowns_all xs]; rfl
mutual
theorem VR.dp : ∀ {v : V} {p : PV}, VR K I ad v p → nown p = true → Dp K I v (dat p)
  | _, _, .non, _ => .non
  | _, _, .bl b, _ => .bl b
  | _, _, .int i, _ => .int i
  | _, _, .str x, _ => .str x
  | _, _, .tup h hs, e => .tup (TupF.sq h) (VRs.dp hs e)
  | _, _, .lst h hs, e => .lst (SqL.of h) (VRs.dp hs e)
  | _, _, .scr h, _ => .lst h (dpAll_ints _)
  | _, _, .own _, e => nomatch e
theorem VRs.dp : ∀ {vs : List V} {ps : List PV}, VRs K I ad vs ps → nowns ps = true → DpAll K I vs (dats ps)
  | _, _, .nil, _ => .nil
  | _, _, .cons h hs, e => by
    rw [nowns, Bool.and_eq_true] at e
    exact .cons (VR.dp h e.1) (VRs.dp hs e.2)
end
@[reducible] def rsv (p : PV) (S : Sto) : PV := match p with
  | .own k => match sget S k with
    | some xs => .lst xs
    | none => .own k
  | x => x
theorem VR.dpS (I : In K W S H) {v : V} {p : PV} (r : VR K W.I W.ad v p) (e : nown (rsv p S) = true) : Dp K H v (dat (rsv p S)) := by
  have go : nown p = true → Dp K H v (dat p) := fun e => Dp.up I.exH (r.dp e)
  cases p with
  | own k =>
    simp only [rsv] at e ⊢
    cases z : sget S k with
    | none => rw [z] at e; cases e
    | some xs =>
      rw [z] at e
      obtain ⟨a, us, h1, h2, h3⟩ := r.lv I (xs := xs) z
      subst h1
      exact .lst h2 (DpAll.up I.exH (h3.dp e))
  | non => exact go e
  | bl b => exact go e
  | int i => exact go e
  | str x => exact go e
  | tup xs => exact go e
  | lst xs => exact go e
  | scr ns => exact go e
def shOk (p : PV) : Prop := nown p = true ∧ ∃ k, k ≤ 60 ∧ good k (dat p)
/-- it may be compared -/
def eqOk (p : PV) : Prop := nown p = true ∧ SeqAt.shaped (dat p) = true
theorem shOk.eq {p : PV} (h : shOk p) : eqOk p := let ⟨h1, k, h2, h3⟩ := h; ⟨h1, good_shaped h3 (by omega)⟩
theorem dats_ints (ns : List Int) : dats (ns.map PV.int) = ns.map .int := by rw [dats_map, List.map_map]; rfl
theorem nowns_ints (ns : List Int) : nowns (ns.map PV.int) = true := by rw [nowns_all]; simp [nown]
theorem eqOk_iL (ns : List Int) : eqOk (.lst (ns.map PV.int)) := ⟨by rw [nown, nowns_ints], by rw [dat, dats_ints]; exact shaped_intsL ns⟩
theorem shaped_intsT (ns : List Int) : SeqAt.shaped (.tuple (ns.map .int)) = true := by
  have h := shaped_intsL ns
  unfold SeqAt.shaped at h ⊢
  simp only [PyData.canLay0, PyData.depth] at h ⊢
  exact h
theorem eqOk_iT (ns : List Int) : eqOk (.tup (ns.map PV.int)) := ⟨by rw [nown, nowns_ints], by rw [dat, dats_ints]; exact shaped_intsT ns⟩
@[reducible] def vEq : A2 := fun x y S P => match x, y with
  | .int i, .int j => P (.bl (decide (i = j))) S
  | .str i, .str j => P (.bl (decide (i = j))) S
  | .bl i, .bl j => P (.bl (decide (i = j))) S
  | .non, .non => P (.bl true) S
  | .non, .int _ => P (.bl false) S
  | .int _, .non => P (.bl false) S
  | .non, .str _ => P (.bl false) S
  | .str _, .non => P (.bl false) S
  | .int _, .str _ => P (.bl false) S
  | .str _, .int _ => P (.bl false) S
  | x, .lst [] => onL (lv x S) fun xs => eqOk (.lst xs) ∧ P (.bl xs.isEmpty) S
  | x, y => eqOk (rsv x S) ∧ eqOk (rsv y S) ∧ P (.bl (PyData.eqv (dat (rsv x S)) (dat (rsv y S)))) S
@[reducible] def vNe : A2 := fun x y S P => vEq x y S fun r S1 => onB r fun c => P (.bl (!c)) S1
theorem eq_core (I : In K W S H) {x y : V} {p q : PV} (r1 : VR K W.I W.ad x p) (r2 : VR K W.I W.ad y q) {P : AV} (h : vEq p q S P) : ∃ b, P (.bl b) S ∧ ((scal x y = true ∧ decide (x = y) = b) ∨ ∃ d e, Dp K H x d ∧ Dp K H y e ∧ SeqAt.shaped d = true ∧ SeqAt.shaped e = true ∧ PyData.eqv d e = b) := by
  unfold vEq at h
  split at h
  · cases r1; cases r2; exact ⟨_, h, .inl ⟨rfl, by simp⟩⟩
  · cases r1; cases r2; exact ⟨_, h, .inl ⟨rfl, by simp⟩⟩
  · cases r1; cases r2; exact ⟨_, h, .inl ⟨rfl, by simp⟩⟩
  · cases r1; cases r2; exact ⟨_, h, .inl ⟨rfl, by simp⟩⟩
  · cases r1; cases r2; exact ⟨_, h, .inl ⟨rfl, by simp⟩⟩
  · cases r1; cases r2; exact ⟨_, h, .inl ⟨rfl, by simp⟩⟩
  · cases r1; cases r2; exact ⟨_, h, .inl ⟨rfl, by simp⟩⟩
  · cases r1; cases r2; exact ⟨_, h, .inl ⟨rfl, by simp⟩⟩
  · cases r1; cases r2; exact ⟨_, h, .inl ⟨rfl, by simp⟩⟩
  · cases r1; cases r2; exact ⟨_, h, .inl ⟨rfl, by simp⟩⟩
  · obtain ⟨xs, e, ⟨h1, h2⟩, h⟩ := onL_of h
    obtain ⟨a, us, rfl, hq, rs⟩ := r1.lv I e
    cases r2 with
    | lst hb hs =>
      cases hs
      rw [nown] at h1
      rw [dat] at h2
      refine ⟨_, h, .inr ⟨_, .list [], .lst hq (DpAll.up I.exH (rs.dp h1)), .lst (SqL.of (I.exH _ _ hb)) .nil, h2, shaped_intsL [], ?_⟩⟩
      rw [eqv_nil, dats_map]
      cases xs <;> simp
  · obtain ⟨⟨h1, g1⟩, ⟨h2, g2⟩, h⟩ := h
    exact ⟨_, h, .inr ⟨_, _, r1.dpS I h1, r2.dpS I h2, g1, g2, rfl⟩⟩
theorem so_eq : SO K (rEqA K) vEq := ⟨fun {W S x y p q H Q P} I r1 r2 h c => by
  obtain ⟨b, hb, ⟨e1, e2⟩ | ⟨d, e, h1, h2, h3, h4, h5⟩⟩ := eq_core I r1 r2 h
  · exact .inl ⟨e1, by rw [e2]; exact c.at I (.bl _) hb⟩
  · exact .inr ⟨d, e, h1, h2, h3, h4, by rw [h5]; exact c.at I (.bl _) hb⟩⟩
theorem so_ne : SO K (rNeA K) vNe := ⟨fun {W S x y p q H Q P} I r1 r2 h c => by
  obtain ⟨b, hb, ⟨e1, e2⟩ | ⟨d, e, h1, h2, h3, h4, h5⟩⟩ := eq_core I r1 r2 h
  · exact .inl ⟨e1, by rw [e2]; exact c.at I (.bl _) hb⟩
  · exact .inr ⟨d, e, h1, h2, h3, h4, by rw [h5]; exact c.at I (.bl _) hb⟩⟩
@[reducible] def vIs : A2 := fun x y S P => match x, y with
  | .non, .non => P (.bl true) S
  | .bl _, .non => P (.bl false) S
  | .int _, .non => P (.bl false) S
  | .str _, .non => P (.bl false) S
  | .tup _, .non => P (.bl false) S
  | .lst _, .non => P (.bl false) S
  | .scr _, .non => P (.bl false) S
  | .own _, .non => P (.bl false) S
  | _, _ => False
@[reducible] def vIsNot : A2 := fun x y S P => match x, y with
  | .non, .non => P (.bl false) S
  | .bl _, .non => P (.bl true) S
  | .int _, .non => P (.bl true) S
  | .str _, .non => P (.bl true) S
  | .tup _, .non => P (.bl true) S
  | .lst _, .non => P (.bl true) S
  | .scr _, .non => P (.bl true) S
  | .own _, .non => P (.bl true) S
  | _, _ => False
theorem so_is : SO K rIsNone vIs := ⟨fun {W S x y p q H Q P} I r1 r2 h c => by
  unfold vIs at h
  split at h <;> first | exact h.elim | (cases r2; cases r1 <;> exact ⟨rfl, c.at I (.bl _) h⟩)⟩
theorem so_isNot : SO K rIsNotNone vIsNot := ⟨fun {W S x y p q H Q P} I r1 r2 h c => by
  unfold vIsNot at h
  split at h <;> first | exact h.elim | (cases r2; cases r1 <;> exact ⟨rfl, c.at I (.bl _) h⟩)⟩
/-! items, slices -/
@[reducible] def vIx : A2 := fun x y S P => onL (sq x S) fun xs => onI y fun i => onO (atI xs i) fun v => P v S
theorem VRs.atI {us : List V} {xs : List PV} (r : VRs K I ad us xs) {i : Int} {p : PV} (e : atI xs i = some p) : ∃ v, L2.atI us i = some v ∧ VR K I ad v p := by
  unfold L2.atI at e ⊢
  rw [r.length]
  cases z : ixN xs.length i with
  | none => rw [z] at e; cases e
  | some j =>
    rw [z] at e
    exact r.get e
theorem so_ix : SO K (rIx K) vIx := ⟨fun {W S x y p q H Q P} I r1 r2 h c => by
  obtain ⟨xs, e, h⟩ := onL_of h
  obtain ⟨i, rfl, _, h⟩ := r2.onI h
  obtain ⟨z, e2, h⟩ := h
  obtain ⟨a, us, rfl, hq, rs⟩ := r1.sq I e
  obtain ⟨v, e3, rv⟩ := rs.atI e2
  rcases hq with hq | hq
  · exact .inl ⟨a, us, i, v, rfl, rfl, hq, e3, c.at I rv h⟩
  · exact .inr (.inl ⟨a, us, i, v, rfl, rfl, hq, e3, c.at I rv h⟩)⟩
abbrev APt := AEnv → Sto → (Option Int → Sto → Prop) → Prop
structure SPt (K : PySem.W.Frag) (tp : TO) (f : APt) : Prop where
  run : ∀ {W S σ ρ H R P}, In K W S H → ER K W σ ρ → f ρ S P → (∀ W' S' o H', W.Le W' → In K W' S' H' → P o S' → R o H') → tp σ H R
@[reducible] def aNo : APt := fun _ S P => P none S
@[reducible] def aPart (a : ATE) : APt := fun ρ S P => a ρ S fun x S1 => onI x fun i => P (some i) S1
theorem sp_no : SPt K tNoPart aNo := ⟨fun I _ h c => c _ _ _ _ (.refl _) I h⟩
theorem sp_part {te : TE} {f : ATE} (ha : SE K te f) : SPt K (tPart te) (aPart f) := ⟨fun I E h c =>
  ha.run I E h fun W1 S1 x p H1 l1 I1 r1 h1 => by
    obtain ⟨i, e, _, h2⟩ := r1.onI h1
    exact ⟨i, e, c _ _ _ _ l1 I1 h2⟩⟩
def cutP (xs : List PV) (lo hi : Option Int) : List PV := (xs.drop (HT.sIx xs.length 0 lo)).take (HT.sIx xs.length xs.length hi - HT.sIx xs.length 0 lo)
@[reducible] def vSl (x : PV) (lo hi : Option Int) (S : Sto) (P : AV) : Prop := match x with
  | .tup xs => P (.tup (cutP xs lo hi)) S
  | _ => onL (lv x S) fun xs => P (.lst (cutP xs lo hi)) S
@[reducible] def vSlO (x : PV) (lo hi : Option Int) (S : Sto) (P : AV) : Prop := onL (lv x S) fun xs => P (.own S.length) (S ++ [.lst (cutP xs lo hi)])
@[reducible] def aSl (g : PV → Option Int → Option Int → Sto → AV → Prop) (a : ATE) (l h : APt) : ATE := fun ρ S P => a ρ S fun x S1 => l ρ S1 fun lo S2 => h ρ S2 fun hi S3 => g x lo hi S3 P
structure SSl (K : PySem.W.Frag) (r : V → Option Int → Option Int → Hp → VK → Prop) (g : PV → Option Int → Option Int → Sto → AV → Prop) : Prop where
  run : ∀ {W S x p lo hi H Q P}, In K W S H → VR K W.I W.ad x p → g p lo hi S P → CE K W P Q → r x lo hi H Q
theorem cut_whole2 {xs : List PV} {lo hi : Option Int} (h : HT.sIx xs.length 0 lo = 0 ∧ HT.sIx xs.length xs.length hi = xs.length) : cutP xs lo hi = xs := by
  unfold cutP
  rw [h.1, h.2]
  simp
theorem sl_any : SSl K (rSlG K) vSl := ⟨fun {W S x p lo hi H Q P} I r h c => by
  have go : onL (lv p S) (fun xs => P (.lst (cutP xs lo hi)) S) → rSlG K x lo hi H Q := fun h => by
    obtain ⟨xs, e, h⟩ := onL_of h
    obtain ⟨a, us, rfl, hq, rs⟩ := r.lv I e
    exact .inl ⟨a, us, rfl, hq, I.newL (rs.cut lo hi) c h⟩
  cases p with
  | tup xs =>
    obtain ⟨a, us, rfl, hq, rs⟩ := r.tupS I
    refine .inr ⟨a, us, rfl, hq, fun w => ?_, fun _ => I.newT (rs.cut lo hi) c h⟩
    rw [rs.length] at w
    have h : P (.tup (cutP xs lo hi)) S := h
    rw [cut_whole2 w] at h
    exact c.at I r h
  | lst xs => exact go h
  | scr ns => exact go h
  | own k => exact go h
  | non => exact go h
  | bl b => exact go h
  | int i => exact go h
  | str z => exact go h⟩
theorem sl_own : SSl K (rSlG K) vSlO := ⟨fun {W S x p lo hi H Q P} I r h c => by
  obtain ⟨xs, e, h⟩ := onL_of h
  obtain ⟨a, us, rfl, hq, rs⟩ := r.lv I e
  exact .inl ⟨a, us, rfl, hq, I.newO (rs.cut lo hi) c h⟩⟩
theorem se_sl {r : V → Option Int → Option Int → Hp → VK → Prop} {g : PV → Option Int → Option Int → Sto → AV → Prop} {te : TE} {f : ATE} {tl th : TO} {fl fh : APt} (hr : SSl K r g) (ha : SE K te f) (hl : SPt K tl fl) (hh : SPt K th fh) : SE K (tSl r te tl th) (aSl g f fl fh) := ⟨fun I E h c =>
  ha.run I E h fun W1 S1 x p H1 l1 I1 r1 h1 => hl.run I1 (E.up l1.toLo) h1 fun W2 S2 lo H2 l2 I2 h2 => hh.run I2 (E.up (l1.trans l2).toLo) h2 fun W3 S3 hi H3 l3 I3 h3 =>
    hr.run I3 (r1.up (l2.trans l3).toLo) h3 (c.up ((l1.trans l2).trans l3))⟩
@[reducible] def aRev (a : ATE) : ATE := fun ρ S P => a ρ S fun x S1 => onL (lv x S1) fun xs => P (.lst xs.reverse) S1
@[reducible] def aRevO (a : ATE) : ATE := fun ρ S P => a ρ S fun x S1 => onL (lv x S1) fun xs => P (.own S1.length) (S1 ++ [.lst xs.reverse])
theorem se_rev {te : TE} {f : ATE} (ha : SE K te f) : SE K (tRevL K te) (aRev f) := ⟨fun I E h c =>
  ha.run I E h fun W1 S1 x p H1 l1 I1 r1 h1 => by
    obtain ⟨xs, e, h⟩ := onL_of h1
    obtain ⟨a, us, rfl, hq, rs⟩ := r1.lv I1 e
    exact ⟨a, us, rfl, hq, I1.newL rs.reverse (c.up l1) h⟩⟩
theorem se_revO {te : TE} {f : ATE} (ha : SE K te f) : SE K (tRevL K te) (aRevO f) := ⟨fun I E h c =>
  ha.run I E h fun W1 S1 x p H1 l1 I1 r1 h1 => by
    obtain ⟨xs, e, h⟩ := onL_of h1
    obtain ⟨a, us, rfl, hq, rs⟩ := r1.lv I1 e
    exact ⟨a, us, rfl, hq, I1.newO rs.reverse (c.up l1) h⟩⟩
end
end L4

/-! readings over trees: calls, targets, what is walked. -/
namespace L4
open PySem PySem.Spec PyProof.Rows L2 L3
section
variable {K : PySem.W.Frag} {W W' : Wd} {S : Sto} {H : Hp} {P : AV} {Q : VK} {I : Hp} {ad : List Addr}
/-! ### calls of built-ins -/
@[reducible] def aCB (g : AL) (t : ATA) : ATE := fun ρ S P => t ρ S fun xs S1 => g xs S1 P
theorem se_cb {r : List V → Hp → VK → Prop} {g : AL} {t : TA} {f : ATA} (hr : SL K r g) (ha : SA K t f) : SE K (tCB r t) (aCB g f) := ⟨fun I E h c =>
  ha.run I E h fun W1 S1 xs ps H1 l1 I1 r1 h1 => hr.run I1 r1 h1 (c.up l1)⟩
@[reducible] def on1 (xs : List PV) (P : PV → Prop) : Prop := match xs with
  | [x] => P x
  | _ => False
theorem VRs.on1 {vs : List V} {ps : List PV} (r : VRs K I ad vs ps) {P : PV → Prop} (h : on1 ps P) : ∃ v p, vs = [v] ∧ ps = [p] ∧ VR K I ad v p ∧ P p := by
  cases r with
  | nil => exact h.elim
  | cons r rs => cases rs with
    | nil => exact ⟨_, _, rfl, rfl, r, h⟩
    | cons _ _ => exact h.elim
@[reducible] def vLen : AL := fun xs S P => on1 xs fun x => onL (sq x S) fun ys => P (.int (ys.length : Nat)) S
theorem sl_len : SL K (rLenA K) vLen := ⟨fun I r h c => by
  obtain ⟨v, p, rfl, rfl, r, h⟩ := r.on1 h
  obtain ⟨ys, e, h⟩ := onL_of h
  obtain ⟨a, us, rfl, hq, rs⟩ := r.sq I e
  rw [← rs.length] at h
  rcases hq with hq | hq
  · exact ⟨_, us.length, rfl, .inl ⟨us, hq, rfl⟩, c.at I (.int _) h⟩
  · exact ⟨_, us.length, rfl, .inr ⟨us, hq, rfl⟩, c.at I (.int _) h⟩⟩
/-- a list of ints, of bools -/
def intsOf (xs : List PV) (P : List Int → Prop) : Prop := ∃ ns : List Int, xs = ns.map PV.int ∧ P ns
def blsOf (xs : List PV) (P : List Bool → Prop) : Prop := ∃ ns : List Bool, xs = ns.map PV.bl ∧ P ns
@[reducible] def vMax : AL := fun xs S P => match xs with
  | [.int i, .int j] => P (.int (if j > i then j else i)) S
  | [x] => onL (lv x S) fun ys => intsOf ys fun ns => 0 < ns.length ∧ ∀ m, m ∈ ns → (∀ y, y ∈ ns → y ≤ m) → P (.int m) S
  | _ => False
@[reducible] def vMin : AL := fun xs S P => match xs with
  | [.int i, .int j] => P (.int (if j < i then j else i)) S
  | [x] => onL (lv x S) fun ys => intsOf ys fun ns => 0 < ns.length ∧ ∀ m, m ∈ ns → (∀ y, y ∈ ns → m ≤ y) → P (.int m) S
  | _ => False
theorem sl_max : SL K (rMaxA K) vMax := ⟨fun {W S xs ps H Q P} I r h c => by
  unfold vMax at h
  split at h
  · cases r with
    | cons r1 r2 => cases r2 with
      | cons r2 r3 =>
        cases r3
        cases r1
        cases r2
        exact .inl ⟨_, _, rfl, c.at I (.int _) h⟩
  · obtain ⟨v, p, rfl, e, r, h⟩ := VRs.on1 r (P := fun x => onL (lv x S) fun ys => intsOf ys fun ns => 0 < ns.length ∧ ∀ m, m ∈ ns → (∀ y, y ∈ ns → y ≤ m) → P (.int m) S) h
    obtain ⟨ys, e2, ns, rfl, h1, h2⟩ := onL_of h
    obtain ⟨a, us, rfl, hq, rs⟩ := r.lv I e2
    rw [rs.ints_of] at hq
    exact .inr ⟨a, ns, rfl, hq, h1, fun m hm hb => c.at I (.int _) (h2 m hm hb)⟩
  · exact h.elim⟩
theorem sl_min : SL K (rMinA K) vMin := ⟨fun {W S xs ps H Q P} I r h c => by
  unfold vMin at h
  split at h
  · cases r with
    | cons r1 r2 => cases r2 with
      | cons r2 r3 =>
        cases r3
        cases r1
        cases r2
        exact .inl ⟨_, _, rfl, c.at I (.int _) h⟩
  · obtain ⟨v, p, rfl, e, r, h⟩ := VRs.on1 r (P := fun x => onL (lv x S) fun ys => intsOf ys fun ns => 0 < ns.length ∧ ∀ m, m ∈ ns → (∀ y, y ∈ ns → m ≤ y) → P (.int m) S) h
    obtain ⟨ys, e2, ns, rfl, h1, h2⟩ := onL_of h
    obtain ⟨a, us, rfl, hq, rs⟩ := r.lv I e2
    rw [rs.ints_of] at hq
    exact .inr ⟨a, ns, rfl, hq, h1, fun m hm hb => c.at I (.int _) (h2 m hm hb)⟩
  · exact h.elim⟩
@[reducible] def vSum : AL := fun xs S P => on1 xs fun x => onL (lv x S) fun ys => intsOf ys fun ns => P (.int ns.sum) S
theorem sl_sum : SL K (rSum K) vSum := ⟨fun I r h c => by
  obtain ⟨v, p, rfl, rfl, r, h⟩ := r.on1 h
  obtain ⟨ys, e2, ns, rfl, h⟩ := onL_of h
  obtain ⟨a, us, rfl, hq, rs⟩ := r.lv I e2
  rw [rs.ints_of] at hq
  exact ⟨a, ns, rfl, hq, c.at I (.int _) h⟩⟩
@[reducible] def vAny : AL := fun xs S P => on1 xs fun x => onL (lv x S) fun ys => blsOf ys fun ns => P (.bl (ns.any id)) S
theorem sl_anyB : SL K (rAny K) vAny := ⟨fun I r h c => by
  obtain ⟨v, p, rfl, rfl, r, h⟩ := r.on1 h
  obtain ⟨ys, e2, ns, rfl, h⟩ := onL_of h
  obtain ⟨a, us, rfl, hq, rs⟩ := r.lv I e2
  rw [rs.bls_of] at hq
  exact ⟨a, ns, rfl, hq, c.at I (.bl _) h⟩⟩
@[reducible] def vAll : AL := fun xs S P => on1 xs fun x => onL (lv x S) fun ys => blsOf ys fun ns => P (.bl (ns.all id)) S
theorem sl_allB : SL K (rAll K) vAll := ⟨fun I r h c => by
  obtain ⟨v, p, rfl, rfl, r, h⟩ := r.on1 h
  obtain ⟨ys, e2, ns, rfl, h⟩ := onL_of h
  obtain ⟨a, us, rfl, hq, rs⟩ := r.lv I e2
  rw [rs.bls_of] at hq
  exact ⟨a, ns, rfl, hq, c.at I (.bl _) h⟩⟩
def rpOk (p : PV) : Prop := shOk p ∧ nz (dat p) ≤ 16000000
@[reducible] def vRepr : AL := fun xs S P => on1 xs fun x => rpOk (rsv x S) ∧ P (.str (PyData.shown (dat (rsv x S)))) S
theorem sl_repr : SL K (rRepr K) vRepr := ⟨fun {W S xs ps H Q P} I r h c => by
  obtain ⟨v, p, rfl, rfl, r, ⟨⟨h1, k, h2, h3⟩, h4⟩, h⟩ := r.on1 h
  exact ⟨v, _, rfl, r.dpS I h1, good_show k _ h3, Nat.le_trans (good_depth k _ h3) h2, Nat.le_trans (Nat.le_trans (good_nz k _ h3) h4) (by decide), c.at I (.str _) h⟩⟩
@[reducible] def vList : AL := fun xs S P => on1 xs fun x => onL (sq x S) fun ys => P (.lst ys) S
@[reducible] def vListO : AL := fun xs S P => on1 xs fun x => onL (sq x S) fun ys => P (.own S.length) (S ++ [.lst ys])
theorem sl_list : SL K (rListA K) vList := ⟨fun I r h c => by
  obtain ⟨v, p, rfl, rfl, r, h⟩ := r.on1 h
  obtain ⟨ys, e, h⟩ := onL_of h
  obtain ⟨a, us, rfl, hq, rs⟩ := r.sq I e
  exact ⟨a, us, rfl, hq, I.newL rs c h⟩⟩
theorem sl_listO : SL K (rListA K) vListO := ⟨fun I r h c => by
  obtain ⟨v, p, rfl, rfl, r, h⟩ := r.on1 h
  obtain ⟨ys, e, h⟩ := onL_of h
  obtain ⟨a, us, rfl, hq, rs⟩ := r.sq I e
  exact ⟨a, us, rfl, hq, I.newO rs c h⟩⟩
@[reducible] def vTuple : AL := fun xs S P => on1 xs fun x => onL (sq x S) fun ys => P (.tup ys) S
theorem sl_tuple : SL K (rTupF K) vTuple := ⟨fun {W S xs ps H Q P} I r h c => by
  obtain ⟨v, p, rfl, rfl, r, h⟩ := r.on1 h
  obtain ⟨ys, e, h⟩ := onL_of h
  have go : lv p S = some ys → rTupF K [v] H Q := fun e => by
    obtain ⟨a, us, rfl, hq, rs⟩ := r.lv I e
    exact ⟨a, us, rfl, .inl ⟨hq, I.newT rs c h⟩⟩
  cases p with
  | tup xs =>
    cases e
    obtain ⟨a, us, rfl, hq, rs⟩ := r.tupS I
    exact ⟨a, us, rfl, .inr ⟨hq, c.at I r h⟩⟩
  | lst xs => exact go e
  | scr ns => exact go e
  | own k => exact go e
  | non => exact go e
  | bl b => exact go e
  | int i => exact go e
  | str z => exact go e⟩
@[reducible] def vDivmod : AL := fun xs S P => match xs with
  | [.int i, .int j] => CDiv i j ∧ P (.tup [.int (i / j), .int (i % j)]) S
  | _ => False
theorem sl_divmod : SL K rDivmodF vDivmod := ⟨fun {W S xs ps H Q P} I r h c => by
  unfold vDivmod at h
  split at h
  · cases r with
    | cons r1 r2 => cases r2 with
      | cons r2 r3 =>
        cases r3
        cases r1
        cases r2
        exact ⟨_, _, rfl, h.1, I.newT (.cons (.int _) (.cons (.int _) .nil)) c h.2⟩
  · exact h.elim⟩
@[reducible] def vInt : AL := fun xs S P => match xs with
  | [.int i] => P (.int i) S
  | [.bl k] => P (.int (if k then 1 else 0)) S
  | _ => False
theorem sl_int : SL K rInt1 vInt := ⟨fun {W S xs ps H Q P} I r h c => by
  unfold vInt at h
  split at h
  · cases r with
    | cons r1 r2 => cases r2; cases r1; exact .inl ⟨_, rfl, c.at I (.int _) h⟩
  · cases r with
    | cons r1 r2 => cases r2; cases r1; exact .inr ⟨_, rfl, c.at I (.int _) h⟩
  · exact h.elim⟩
/-! ### methods -/
@[reducible] def aBM (g : AM) (o : ATE) (t : ATA) : ATE := fun ρ S P => o ρ S fun x S1 => onL (lv x S1) fun _ => t ρ S1 fun xs S2 => g x xs S2 P
@[reducible] def aBM0 (g : AM) (o : ATE) : ATE := fun ρ S P => o ρ S fun x S1 => onL (lv x S1) fun _ => g x [] S1 P
@[reducible] def onT (x : PV) (P : List PV → Prop) : Prop := match x with
  | .tup xs => P xs
  | _ => False
theorem VR.onT {v : V} {p : PV} (r : VR K I ad v p) {P : List PV → Prop} (h : onT p P) : ∃ xs, p = .tup xs ∧ P xs := by
  cases r with
  | tup _ _ => exact ⟨_, rfl, h⟩
  | int i => exact h.elim
  | non => exact h.elim
  | bl i => exact h.elim
  | str x => exact h.elim
  | lst _ _ => exact h.elim
  | scr _ => exact h.elim
  | own _ => exact h.elim
@[reducible] def aBMT (g : AM) (o : ATE) (t : ATA) : ATE := fun ρ S P => o ρ S fun x S1 => onT x fun _ => t ρ S1 fun xs S2 => g x xs S2 P
theorem se_bm {r : V → List V → Hp → VK → Prop} {g : AM} {to : TE} {fo : ATE} {t : TA} {f : ATA} (hr : SM K r g) (ho : SE K to fo) (ha : SA K t f) : SE K (tBM K "list" r to t) (aBM g fo f) := ⟨fun I E h c =>
  ho.run I E h fun W1 S1 x p H1 l1 I1 r1 h1 => by
    obtain ⟨ys, e, h2⟩ := onL_of h1
    obtain ⟨a, us, rfl, hq, rs⟩ := r1.lv I1 e
    exact ⟨.inl ⟨rfl, us, hq⟩, ha.run I1 (E.up l1.toLo) h2 fun W2 S2 xs ps H2 l2 I2 r2 h3 => hr.run I2 (r1.up l2.toLo) r2 h3 (c.up (l1.trans l2))⟩⟩
theorem se_bm0 {r : V → List V → Hp → VK → Prop} {g : AM} {to : TE} {fo : ATE} (hr : SM K r g) (ho : SE K to fo) : SE K (tBM0 K "list" r to) (aBM0 g fo) := ⟨fun I E h c =>
  ho.run I E h fun W1 S1 x p H1 l1 I1 r1 h1 => by
    obtain ⟨ys, e, h2⟩ := onL_of h1
    obtain ⟨a, us, rfl, hq, rs⟩ := r1.lv I1 e
    exact ⟨.inl ⟨rfl, us, hq⟩, hr.run I1 r1 .nil h2 (c.up l1)⟩⟩
theorem se_bmT {r : V → List V → Hp → VK → Prop} {g : AM} {to : TE} {fo : ATE} {t : TA} {f : ATA} (hr : SM K r g) (ho : SE K to fo) (ha : SA K t f) : SE K (tBMT r to t) (aBMT g fo f) := ⟨fun I E h c =>
  ho.run I E h fun W1 S1 x p H1 l1 I1 r1 h1 => by
    obtain ⟨ys, rfl, h2⟩ := r1.onT h1
    refine ⟨?_, ha.run I1 (E.up l1.toLo) h2 fun W2 S2 xs ps H2 l2 I2 r2 h3 => hr.run I2 (r1.up l2.toLo) r2 h3 (c.up (l1.trans l2))⟩
    cases r1 with
    | tup h hs => exact ⟨_, _, rfl, TupF.up I1.exH h⟩⟩
/-- what is own -/
@[reducible] def onK (x : PV) (S : Sto) (P : Nat → List PV → Prop) : Prop := match x with
  | .own k => onL (sget S k) fun xs => P k xs
  | _ => False
theorem VR.onK (I : In K W S H) {v : V} {p : PV} (r : VR K W.I W.ad v p) {P : Nat → List PV → Prop} (h : onK p S P) :
    ∃ a us k xs, v = .ref a ∧ p = .own k ∧ H a = some (.lst us) ∧ VRs K W.I W.ad us xs ∧ sget S k = some xs ∧ (∀ us' xs', VRs K W.I W.ad us' xs' → In K W (sput S k xs') (upd H a (.lst us'))) ∧ P k xs := by
  cases p with
  | own k =>
    obtain ⟨xs, e, h⟩ := onL_of h
    obtain ⟨a, us, e1, e2, rs, up⟩ := I.at r (sget_eq e)
    exact ⟨a, us, k, xs, e1, rfl, e2, rs, e, fun us' xs' r' => by rw [sput_eq]; exact up us' xs' r', h⟩
  | tup _ => exact h.elim
  | int i => exact h.elim
  | non => exact h.elim
  | bl i => exact h.elim
  | str x => exact h.elim
  | lst _ => exact h.elim
  | scr _ => exact h.elim
@[reducible] def vAppend : AM := fun x ys S P => on1 ys fun y => onK x S fun k xs => xs.length < sizeLine ∧ P .non (sput S k (xs ++ [y]))
theorem sm_append : SM K rAppend vAppend := ⟨fun I r rs h c => by
  obtain ⟨v, p, rfl, rfl, r2, h⟩ := rs.on1 h
  obtain ⟨a, us, k, xs, rfl, rfl, e, r3, _, up, hz, h⟩ := r.onK I h
  exact ⟨a, us, v, rfl, rfl, e, by rw [r3.length]; exact hz, c.at (up _ _ (r3.append (.cons r2 .nil))) .non h⟩⟩
@[reducible] def vPop : AM := fun x ys S P => match ys with
  | [] => onK x S fun k xs => onO xs[xs.length - 1]? fun y => P y (sput S k xs.dropLast)
  | _ => False
theorem sm_pop : SM K rPop vPop := ⟨fun {W S x p xs ps H Q P} I r rs h c => by
  cases rs with
  | cons _ _ => exact h.elim
  | nil =>
    have h : onK p S fun k xs => onO xs[xs.length - 1]? fun y => P y (sput S k xs.dropLast) := h
    obtain ⟨a, us, k, zs, rfl, rfl, e, r3, _, up, y, ey, h⟩ := r.onK I h
    obtain ⟨v, ev, rv⟩ := r3.get ey
    exact ⟨a, us, v, rfl, rfl, e, by rw [r3.length]; exact ev, c.at (up _ _ r3.dropLast) rv h⟩⟩
@[reducible] def vCount : AM := fun x ys S P => on1 ys fun y => onT x fun xs => onI y fun k => intsOf xs fun ns => P (.int (ns.count k : Nat)) S
theorem sm_count : SM K (rCntT K) vCount := ⟨fun I r rs h c => by
  obtain ⟨v, p, rfl, rfl, r2, h⟩ := rs.on1 h
  obtain ⟨xs, rfl, h2⟩ := r.onT h
  obtain ⟨k, rfl, _, ns, e, h3⟩ := r2.onI h2
  clear h h2
  subst e
  obtain ⟨a, us, rfl, hq, r3⟩ := r.tupS I
  rw [r3.ints_of] at hq
  exact ⟨a, ns, k, rfl, rfl, hq, c.at I (.int _) h3⟩⟩
/-! ### targets -/
inductive AItem where
  | one (p : PV)
  | many (xs : List PV)
inductive IR (K : PySem.W.Frag) (W : Wd) (H : Hp) : V → AItem → Prop where
  | one {v : V} {p : PV} : VR K W.I W.ad v p → IR K W H v (.one p)
  | many {a : Addr} {us : List V} {xs : List PV} : SqT K H a us → VRs K W.I W.ad us xs → IR K W H (.ref a) (.many xs)
abbrev AG := AItem → AEnv → Sto → (AEnv → Sto → Prop) → Prop
abbrev AGs := List PV → AEnv → Sto → (AEnv → Sto → Prop) → Prop
/-- only the slots ws are changed -/
def Fx (ws : List Nat) (σ σ' : St) : Prop := ∀ vs : List Nat, (∀ i ∈ ws, i ∈ vs) → wipe σ' vs = wipe σ vs
theorem Fx.refl {ws : List Nat} (σ : St) : Fx ws σ σ := fun _ _ => rfl
theorem wipe_set_out {σ : St} {i : Nat} {x : Option V} : ∀ {vs : List Nat}, i ∉ vs → wipe (σ.set i x) vs = (wipe σ vs).set i x
  | [], _ => rfl
  | v :: vs, h => by
    unfold wipe
    rw [wipe_set_out (fun z => h (List.mem_cons_of_mem _ z)), List.set_comm _ _ (fun e => h (by rw [e]; exact List.mem_cons_self))]
theorem wipe_set_in {σ : St} {i : Nat} {x : Option V} : ∀ {vs : List Nat}, i ∈ vs → wipe (σ.set i x) vs = wipe σ vs
  | v :: vs, h => by
    unfold wipe
    by_cases hi : i ∈ vs
    · rw [wipe_set_in hi]
    · rcases List.mem_cons.mp h with rfl | h
      · rw [wipe_set_out hi, List.set_set]
      · exact absurd h hi
theorem Fx.set {i : Nat} {x : Option V} (σ : St) : Fx [i] σ (σ.set i x) := fun vs h => wipe_set_in (h i List.mem_cons_self)
structure SG (K : PySem.W.Frag) (g : TG) (f : AG) (ws : List Nat) : Prop where
  run : ∀ {W S σ ρ H v it R P}, In K W S H → ER K W σ ρ → IR K W H v it → f it ρ S P → (∀ W' S' σ' ρ' H', W.Le W' → In K W' S' H' → ER K W' σ' ρ' → Fx ws σ σ' → P ρ' S' → R σ' H') → g v σ H R
structure SGs (K : PySem.W.Frag) (g : TGs) (f : AGs) (ws : List Nat) : Prop where
  run : ∀ {W S σ ρ H vs ps R P}, In K W S H → ER K W σ ρ → VRs K W.I W.ad vs ps → f ps ρ S P → (∀ W' S' σ' ρ' H', W.Le W' → In K W' S' H' → ER K W' σ' ρ' → Fx ws σ σ' → P ρ' S' → R σ' H') → g vs σ H R
@[reducible] def gaName (i : Nat) : AG := fun it ρ S P => match it with
  | .one p => P (put ρ i p) S
  | _ => False
@[reducible] def gaNil : AGs := fun ps ρ S P => match ps with
  | [] => P ρ S
  | _ => False
@[reducible] def gaCons (g : AG) (gs : AGs) : AGs := fun ps ρ S P => match ps with
  | p :: ps => g (.one p) ρ S fun ρ1 S1 => gs ps ρ1 S1 P
  | _ => False
@[reducible] def gaTup (n : Nat) (gs : AGs) : AG := fun it ρ S P => match it with
  | .many xs => xs.length = n ∧ gs xs ρ S P
  | .one (.tup xs) => xs.length = n ∧ gs xs ρ S P
  | _ => False
@[reducible] def gaSub (o i : ATE) : AG := fun it ρ S P => match it with
  | .one p => o ρ S fun x S1 => i ρ S1 fun y S2 => onI y fun j => onK x S2 fun k xs => onO (ixN xs.length j) fun m => P ρ (sput S2 k (xs.set m p))
  | _ => False
theorem sg_name {i : Nat} : SG K (gName i) (gaName i) [i] := ⟨fun {W S σ ρ H v it R P} I E r h c => by
  cases r with
  | one r => exact c _ _ _ _ _ (.refl _) I (E.put r i) (Fx.set σ) h
  | many _ _ => exact h.elim⟩
theorem sgs_nil : SGs K gNil gaNil [] := ⟨fun {W S σ ρ H vs ps R P} I E r h c => by
  cases r with
  | nil => exact ⟨rfl, c _ _ _ _ _ (.refl _) I E (Fx.refl σ) h⟩
  | cons _ _ => exact h.elim⟩
theorem sgs_cons {g : TG} {f : AG} {gs : TGs} {fs : AGs} {ws ws' : List Nat} (h1 : SG K g f ws) (h2 : SGs K gs fs ws') : SGs K (gCons g gs) (gaCons f fs) (ws ++ ws') := ⟨fun {W S σ ρ H vs ps R P} I E r h c => by
  cases r with
  | nil => exact h.elim
  | cons r rs =>
    refine ⟨_, _, rfl, h1.run I E (.one r) h fun W1 S1 σ1 ρ1 H1 l1 I1 E1 x1 k1 => ?_⟩
    exact h2.run I1 E1 (rs.up l1.toLo) k1 fun W2 S2 σ2 ρ2 H2 l2 I2 E2 x2 k2 => c _ _ _ _ _ (l1.trans l2) I2 E2 (fun vs hv => (x2 vs fun i hi => hv i (List.mem_append_right _ hi)).trans (x1 vs fun i hi => hv i (List.mem_append_left _ hi))) k2⟩
theorem sg_tup {n : Nat} {gs : TGs} {fs : AGs} {ws : List Nat} (h2 : SGs K gs fs ws) : SG K (gTup K n gs) (gaTup n fs) ws := ⟨fun {W S σ ρ H v it R P} I E r h c => by
  cases r with
  | many hq rs => exact ⟨_, _, rfl, hq, by rw [rs.length]; exact h.1, h2.run I E rs h.2 c⟩
  | one r =>
    rename_i p
    cases p with
    | tup xs =>
      obtain ⟨a, us, rfl, hq, rs⟩ := r.tupS I
      exact ⟨a, us, rfl, hq, by rw [rs.length]; exact h.1, h2.run I E rs h.2 c⟩
    | int i => exact h.elim
    | non => exact h.elim
    | bl i => exact h.elim
    | str x => exact h.elim
    | lst _ => exact h.elim
    | scr _ => exact h.elim
    | own _ => exact h.elim⟩
theorem sg_sub {to ti : TE} {fo fi : ATE} (ho : SE K to fo) (hi : SE K ti fi) : SG K (gSub to ti rSetL) (gaSub fo fi) [] := ⟨fun {W S σ ρ H v it R P} I E r h c => by
  cases r with
  | many _ _ => exact h.elim
  | one r =>
    exact ho.run I E h fun W1 S1 x p H1 l1 I1 r1 h1 => hi.run I1 (E.up l1.toLo) h1 fun W2 S2 y q H2 l2 I2 r2 h2 => by
      obtain ⟨j, rfl, _, h2⟩ := r2.onI h2
      obtain ⟨a, us, k, xs, rfl, rfl, e, r3, _, up, m, em, h2⟩ := (r1.up l2.toLo).onK I2 h2
      exact ⟨a, us, j, m, rfl, rfl, e, by rw [r3.length]; exact em, c _ _ _ _ _ (l1.trans l2) (up _ _ (r3.set (r.up (l1.trans l2).toLo) m)) (E.up (l1.trans l2).toLo) (Fx.refl σ) h2⟩⟩
/-! ### what is walked -/
structure Yl (K : PySem.W.Frag) (W : Wd) (J : It) (C : Sto → Prop) (its : List AItem) : Prop where
  go : ∀ W' S H i, W.Lo W' → In K W' S H → C S → i < its.length → J.go i H
  stop : ∀ W' S H, W.Lo W' → In K W' S H → C S → J.stop its.length H
  yld : ∀ W' S H i it x H', W.Lo W' → In K W' S H → C S → its[i]? = some it → J.yld i H x H' → In K W' S H' ∧ IR K W' H' x it
abbrev ATI := AEnv → Sto → ((Sto → Prop) → List AItem → Sto → Prop) → Prop
structure SI (K : PySem.W.Frag) (wi : TI) (f : ATI) : Prop where
  run : ∀ {W S σ ρ H R P}, In K W S H → ER K W σ ρ → f ρ S P → (∀ W' S' J C its H', W.Le W' → In K W' S' H' → Yl K W' J C its → P C its S' → R J H') → wi σ H R
theorem In.skip (I : In K W S H) {p : Addr} {o : HO} (h : H p = none) : In K W S (upd H p o) := by
  obtain ⟨os, O, h1, h2, h3⟩ := I.ex
  exact ⟨os, O.skip h, h1, h2, h3⟩
def cT : Sto → Prop := fun _ => True
@[reducible] def aSeq1 (a : ATE) : ATI := fun ρ S R => a ρ S fun x S1 => match x with
  | .tup xs => R cT (xs.map .one) S1
  | .lst xs => R cT (xs.map .one) S1
  | .scr ns => R cT (ns.map fun n => .one (.int n)) S1
  | .own k => onL (sget S1 k) fun xs => R (fun S2 => sget S2 k = some xs) (xs.map .one) S1
  | _ => False
theorem one_get {xs : List PV} {i : Nat} {it : AItem} (h : (xs.map AItem.one)[i]? = some it) : ∃ p, xs[i]? = some p ∧ it = .one p := by
  rw [List.getElem?_map] at h
  cases e : xs[i]? with
  | none => rw [e] at h; cases h
  | some p => rw [e] at h; cases h; exact ⟨p, rfl, rfl⟩
theorem yl_tup {a : Addr} {us : List V} {xs : List PV} (hq : SqT K W.I a us) (rs : VRs K W.I W.ad us xs) : Yl K W (Itt K a) cT (xs.map .one) where
  go := fun W' S H i l I' _ hi => by
    rw [List.length_map, ← rs.length] at hi
    exact ⟨us, _, SqT.up (l.ex.trans I'.exH) hq, List.getElem?_eq_getElem hi⟩
  stop := fun W' S H l I' _ => ⟨us, SqT.up (l.ex.trans I'.exH) hq, by rw [List.length_map, rs.length]; exact Nat.le_refl _⟩
  yld := fun W' S H i it x H' l I' _ e ⟨e1, e2⟩ => by
    subst e1
    obtain ⟨p, hp, rfl⟩ := one_get e
    obtain ⟨v, hv, rv⟩ := rs.get hp
    have := e2 us (SqT.up (l.ex.trans I'.exH) hq)
    rw [hv] at this
    cases this
    exact ⟨I', .one (rv.up l)⟩
theorem yl_lst {a : Addr} {us : List V} {xs : List PV} {C : Sto → Prop} (hq : ∀ W' S H, W.Lo W' → In K W' S H → C S → ∃ us, SqL K H a us ∧ VRs K W'.I W'.ad us xs) (un : ∀ H (us us' : List V), SqL K H a us → SqL K H a us' → us = us' ∨ True) : Yl K W (Itl K a) C (xs.map .one) where
  go := fun W' S H i l I' c hi => by
    obtain ⟨us, h1, h2⟩ := hq W' S H l I' c
    rw [List.length_map, ← h2.length] at hi
    exact ⟨us, _, h1, List.getElem?_eq_getElem hi⟩
  stop := fun W' S H l I' c => by
    obtain ⟨us, h1, h2⟩ := hq W' S H l I' c
    exact ⟨us, h1, by rw [List.length_map, h2.length]; exact Nat.le_refl _⟩
  yld := fun W' S H i it x H' l I' c e ⟨e1, e2⟩ => by
    subst e1
    obtain ⟨us, h1, h2⟩ := hq W' S _ l I' c
    obtain ⟨p, hp, rfl⟩ := one_get e
    obtain ⟨v, hv, rv⟩ := h2.get hp
    have := e2 us h1
    rw [hv] at this
    cases this
    exact ⟨I', .one rv⟩
theorem si_seq {te : TE} {f : ATE} (ha : SE K te f) : SI K (iSeq K te) (aSeq1 f) := ⟨fun {W S σ ρ H R P} I E h c =>
  ha.run I E h fun W1 S1 x p H1 l1 I1 r1 h1 => by
    cases r1 with
    | tup hf hs => exact ⟨_, _, rfl, .inr ⟨SqT.up I1.exH hf.sq, c _ _ _ _ _ _ l1 I1 (yl_tup hf.sq hs) h1⟩⟩
    | lst hl hs => exact ⟨_, _, rfl, .inl ⟨SqL.of (I1.exH _ _ hl), c _ _ _ _ _ _ l1 I1 (yl_lst (us := []) (fun W' S H l I' _ => ⟨_, SqL.of (I'.exH _ _ (l.ex _ _ hl)), hs.up l⟩) fun _ _ _ _ _ => .inr trivial) h1⟩⟩
    | scr hl =>
      rename_i a ns
      have h1 : P cT ((ns.map PV.int).map .one) S1 := by
        rw [List.map_map]
        exact h1
      exact ⟨_, _, rfl, .inl ⟨SqL.up I1.exH hl, c _ _ _ _ _ _ l1 I1 (yl_lst (us := []) (fun W' S H l I' _ => ⟨_, SqL.up (l.ex.trans I'.exH) hl, VRs.ints ns⟩) fun _ _ _ _ _ => .inr trivial) h1⟩⟩
    | own hk =>
      rename_i a k
      obtain ⟨xs, e, h2⟩ := onL_of h1
      obtain ⟨a', us, e1, e2, rs, _⟩ := I1.at (.own hk) (sget_eq e)
      cases e1
      refine ⟨_, _, rfl, .inl ⟨SqL.of e2, c _ _ _ _ _ _ l1 I1 (yl_lst (us := []) (fun W' S H l I' hc => ?_) fun _ _ _ _ _ => .inr trivial) h2⟩⟩
      obtain ⟨a'', us', e3, e4, rs', _⟩ := I'.at (.own (l.ad _ _ hk)) (sget_eq hc)
      cases e3
      exact ⟨us', SqL.of e4, rs'⟩
    | non => exact h1.elim
    | bl b => exact h1.elim
    | int i => exact h1.elim
    | str x => exact h1.elim⟩
def rngI (lo : Int) (n : Nat) : List AItem := (List.range n).map fun i => .one (.int (lo + (i : Nat)))
@[reducible] def aRng1 (t : ATA) : ATI := fun ρ S R => t ρ S fun ps S1 => on1 ps fun x => onI x fun j => -(2 ^ 62) ≤ j ∧ j < 2 ^ 62 ∧ R cT (rngI 0 j.toNat) S1
@[reducible] def aRng2 (t : ATA) : ATI := fun ρ S R => t ρ S fun ps S1 => match ps with
  | [x, y] => onI2 x y fun i j => (-(2 ^ 62) ≤ i ∧ i < 2 ^ 62 ∧ -(2 ^ 62) ≤ j ∧ j < 2 ^ 62) ∧ R cT (rngI i (j - i).toNat) S1
  | _ => False
theorem rngI_get {lo : Int} {n i : Nat} {it : AItem} (h : (rngI lo n)[i]? = some it) : i < n ∧ it = .one (.int (lo + (i : Nat))) := by
  unfold rngI at h
  rw [List.getElem?_map] at h
  by_cases hi : i < n
  · rw [List.getElem?_range hi] at h
    cases h
    exact ⟨hi, rfl⟩
  · rw [List.getElem?_eq_none (by simpa using hi)] at h
    cases h
theorem rngI_len {lo : Int} {n : Nat} : (rngI lo n).length = n := by unfold rngI; simp
theorem yl_rng {lo : Int} {n : Nat} : Yl K W (Itr lo n) cT (rngI lo n) where
  go := fun W' S H i l I' _ hi => by rw [rngI_len] at hi; exact hi
  stop := fun W' S H l I' _ => by rw [rngI_len]; exact Nat.le_refl n
  yld := fun W' S H i it x H' l I' _ e ⟨e1, e2⟩ => by
    subst e1 e2
    obtain ⟨_, rfl⟩ := rngI_get e
    exact ⟨I', .one (.int _)⟩
theorem si_rng1 {t : TA} {f : ATA} (ha : SA K t f) : SI K (iRng1 t) (aRng1 f) := ⟨fun I E h c =>
  ha.run I E h fun W1 S1 xs ps H1 l1 I1 r1 h1 => by
    obtain ⟨v, p, rfl, rfl, r, h1⟩ := r1.on1 h1
    obtain ⟨j, rfl, _, h2, h3, h1⟩ := r.onI h1
    exact ⟨j, rfl, h2, h3, c _ _ _ _ _ _ l1 I1 yl_rng h1⟩⟩
theorem si_rng2 {t : TA} {f : ATA} (ha : SA K t f) : SI K (iRng2 t) (aRng2 f) := ⟨fun {W S σ ρ H R P} I E h c =>
  ha.run I E h fun W1 S1 xs ps H1 l1 I1 r1 h1 => by
    cases r1 with
    | nil => exact h1.elim
    | cons r1 r2 => cases r2 with
      | nil => exact h1.elim
      | cons r2 r3 => cases r3 with
        | cons _ _ => exact h1.elim
        | nil =>
          obtain ⟨i, j, rfl, rfl, h2, h1⟩ := r1.onI2 r2 (P := fun i j => (-(2 ^ 62) ≤ i ∧ i < 2 ^ 62 ∧ -(2 ^ 62) ≤ j ∧ j < 2 ^ 62) ∧ P cT (rngI i (j - i).toNat) S1) h1
          exact ⟨i, j, rfl, h2, c _ _ _ _ _ _ l1 I1 yl_rng h1⟩⟩
/-- a list or a tuple that stays as it is -/
@[reducible] def onF (x : PV) (P : List PV → Prop) : Prop := match x with
  | .tup xs => P xs
  | .lst xs => P xs
  | .scr ns => P (ns.map .int)
  | _ => False
theorem VR.onF {v : V} {p : PV} (r : VR K I ad v p) {P : List PV → Prop} (h : onF p P) : ∃ a us xs, v = .ref a ∧ (SqL K I a us ∨ SqT K I a us) ∧ VRs K I ad us xs ∧ P xs := by
  cases r with
  | tup hf hs => exact ⟨_, _, _, rfl, .inr hf.sq, hs, h⟩
  | lst hl hs => exact ⟨_, _, _, rfl, .inl (SqL.of hl), hs, h⟩
  | scr hl => exact ⟨_, _, _, rfl, .inl hl, VRs.ints _, h⟩
  | own _ => exact h.elim
  | int i => exact h.elim
  | non => exact h.elim
  | bl i => exact h.elim
  | str x => exact h.elim
def enumI : Nat → List PV → List AItem
  | _, [] => []
  | n, x :: xs => .many [.int (n : Nat), x] :: enumI (n + 1) xs
theorem enumI_get : ∀ {xs : List PV} {n i : Nat} {it : AItem}, (enumI n xs)[i]? = some it → ∃ p, xs[i]? = some p ∧ it = .many [.int ((n + i : Nat) : Int), p]
  | [], _, _, _, h => by cases h
  | x :: xs, n, 0, it, h => by cases h; exact ⟨x, rfl, rfl⟩
  | x :: xs, n, i + 1, it, h => by
    obtain ⟨p, h1, h2⟩ := enumI_get (xs := xs) (n := n + 1) (i := i) h
    exact ⟨p, h1, by rw [h2, show n + 1 + i = n + (i + 1) by omega]⟩
theorem enumI_len : ∀ {xs : List PV} {n : Nat}, (enumI n xs).length = xs.length
  | [], _ => rfl
  | x :: xs, n => by rw [enumI, List.length_cons, List.length_cons, enumI_len]
def zipI : List PV → List PV → List AItem
  | x :: xs, y :: ys => .many [x, y] :: zipI xs ys
  | _, _ => []
theorem zipI_get : ∀ {xs ys : List PV} {i : Nat} {it : AItem}, (zipI xs ys)[i]? = some it → ∃ p q, xs[i]? = some p ∧ ys[i]? = some q ∧ it = .many [p, q]
  | [], _, _, _, h => by cases h
  | _ :: _, [], _, _, h => by cases h
  | x :: xs, y :: ys, 0, it, h => by cases h; exact ⟨x, y, rfl, rfl, rfl⟩
  | x :: xs, y :: ys, i + 1, it, h => by
    obtain ⟨p, q, h1, h2, h3⟩ := zipI_get (xs := xs) (ys := ys) (i := i) h
    exact ⟨p, q, h1, h2, h3⟩
theorem zipI_len : ∀ {xs ys : List PV}, (zipI xs ys).length = min xs.length ys.length
  | [], _ => by simp [zipI]
  | _ :: _, [] => by simp [zipI]
  | x :: xs, y :: ys => by rw [zipI, List.length_cons, List.length_cons, List.length_cons, zipI_len]; omega
theorem yl_u {n : Nat} {G : Hp → Prop} {Y : Nat → List V → Prop} {its : List AItem} (hn : its.length = n) (hG : ∀ W' S H, W.Lo W' → In K W' S H → G H) (hY : ∀ i it us, its[i]? = some it → Y i us → ∃ xs, it = .many xs ∧ VRs K W.I W.ad us xs) : Yl K W (Itu n G Y) cT its where
  go := fun W' S H i l I' _ hi => ⟨by rw [← hn]; exact hi, hG W' S H l I'⟩
  stop := fun W' S H l I' _ => ⟨hn, hG W' S H l I'⟩
  yld := fun W' S H i it x H' l I' _ e ⟨T, us, e1, e2, e3, y⟩ => by
    subst e1 e3
    obtain ⟨xs, rfl, rs⟩ := hY i it us e y
    exact ⟨I'.skip e2, .many (SqT.of upd_same) (rs.up l)⟩
@[reducible] def aEnum (t : ATA) : ATI := fun ρ S R => t ρ S fun ps S1 => on1 ps fun x => onF x fun xs => R cT (enumI 0 xs) S1
theorem si_enum {t : TA} {f : ATA} (ha : SA K t f) : SI K (iEnumS K t) (aEnum f) := ⟨fun I E h c =>
  ha.run I E h fun W1 S1 xs ps H1 l1 I1 r1 h1 => by
    obtain ⟨v, p, rfl, rfl, r, h1⟩ := r1.on1 h1
    obtain ⟨a, us, ys, rfl, hq, rs, h1⟩ := r.onF h1
    have hY : ∀ i it vs, (enumI 0 ys)[i]? = some it → YEnum us i vs → ∃ xs, it = .many xs ∧ VRs K W1.I W1.ad vs xs := fun i it vs e ⟨x, hx, eu⟩ => by
      obtain ⟨p, hp, rfl⟩ := enumI_get e
      obtain ⟨v, hv, rv⟩ := rs.get hp
      rw [hx] at hv
      cases hv
      subst eu
      exact ⟨_, rfl, .cons (by rw [Nat.zero_add]; exact .int _) (.cons rv .nil)⟩
    have hn : (enumI 0 ys).length = us.length := by rw [enumI_len, rs.length]
    rcases hq with hq | hq
    · exact ⟨a, us, rfl, .inl ⟨SqL.up I1.exH hq, c _ _ _ _ _ _ l1 I1 (yl_u hn (fun W' S H l I' => SqL.up (l.ex.trans I'.exH) hq) hY) h1⟩⟩
    · exact ⟨a, us, rfl, .inr ⟨SqT.up I1.exH hq, c _ _ _ _ _ _ l1 I1 (yl_u hn (fun W' S H l I' => SqT.up (l.ex.trans I'.exH) hq) hY) h1⟩⟩⟩
@[reducible] def aZip (t : ATA) : ATI := fun ρ S R => t ρ S fun ps S1 => match ps with
  | [x, y] => onF x fun xs => onF y fun ys => R cT (zipI xs ys) S1
  | _ => False
theorem si_zip {t : TA} {f : ATA} (ha : SA K t f) : SI K (iZipS K t) (aZip f) := ⟨fun {W S σ ρ H R P} I E h c =>
  ha.run I E h fun W1 S1 xs ps H1 l1 I1 r1 h1 => by
    cases r1 with
    | nil => exact h1.elim
    | cons r1 r2 => cases r2 with
      | nil => exact h1.elim
      | cons r2 r3 => cases r3 with
        | cons _ _ => exact h1.elim
        | nil =>
          obtain ⟨a, us, xs, rfl, hq, rs, h1⟩ := r1.onF (P := fun xs => onF _ fun ys => P cT (zipI xs ys) S1) h1
          obtain ⟨b, ws, ys, rfl, hq2, rs2, h1⟩ := r2.onF h1
          have hY : ∀ i it vs, (zipI xs ys)[i]? = some it → YZip us ws i vs → ∃ xs, it = .many xs ∧ VRs K W1.I W1.ad vs xs := fun i it vs e ⟨x, y, hx, hy, eu⟩ => by
            obtain ⟨p, q, hp, hq, rfl⟩ := zipI_get e
            obtain ⟨v, hv, rv⟩ := rs.get hp
            obtain ⟨v2, hv2, rv2⟩ := rs2.get hq
            rw [hx] at hv
            rw [hy] at hv2
            cases hv
            cases hv2
            subst eu
            exact ⟨_, rfl, .cons rv (.cons rv2 .nil)⟩
          have hn : (zipI xs ys).length = min us.length ws.length := by rw [zipI_len, rs.length, rs2.length]
          refine ⟨a, b, us, ws, rfl, ?_⟩
          rcases hq with hq | hq <;> rcases hq2 with hq2 | hq2
          · exact .inl ⟨SqL.up I1.exH hq, SqL.up I1.exH hq2, c _ _ _ _ _ _ l1 I1 (yl_u hn (fun W' S H l I' => ⟨SqL.up (l.ex.trans I'.exH) hq, SqL.up (l.ex.trans I'.exH) hq2⟩) hY) h1⟩
          · exact .inr (.inl ⟨SqL.up I1.exH hq, SqT.up I1.exH hq2, c _ _ _ _ _ _ l1 I1 (yl_u hn (fun W' S H l I' => ⟨SqL.up (l.ex.trans I'.exH) hq, SqT.up (l.ex.trans I'.exH) hq2⟩) hY) h1⟩)
          · exact .inr (.inr (.inl ⟨SqT.up I1.exH hq, SqL.up I1.exH hq2, c _ _ _ _ _ _ l1 I1 (yl_u hn (fun W' S H l I' => ⟨SqT.up (l.ex.trans I'.exH) hq, SqL.up (l.ex.trans I'.exH) hq2⟩) hY) h1⟩))
          · exact .inr (.inr (.inr ⟨SqT.up I1.exH hq, SqT.up I1.exH hq2, c _ _ _ _ _ _ l1 I1 (yl_u hn (fun W' S H l I' => ⟨SqT.up (l.ex.trans I'.exH) hq, SqT.up (l.ex.trans I'.exH) hq2⟩) hY) h1⟩))⟩
end
end L4

/-! readings over trees: statements, loops, comprehensions, defs. -/
namespace L4
open PySem PySem.Spec PyProof.Rows L2 L3
structure AEnds where
  nx : AEnv → Sto → Prop
  rt : AV
  bk : AEnv → Sto → Prop := fun _ _ => False
  ct : AEnv → Sto → Prop := fun _ _ => False
abbrev ATS := AEnds → AEnv → Sto → Prop
section
variable (K : PySem.W.Frag)
def CS (W : Wd) (P : AEnv → Sto → Prop) (Q : St → Hp → Prop) : Prop := ∀ W' S σ ρ H, W.Le W' → In K W' S H → ER K W' σ ρ → P ρ S → Q σ H
structure SEnds (W : Wd) (D : Ends) (D' : AEnds) : Prop where
  nx : CS K W D'.nx D.nx
  rt : CE K W D'.rt D.rt
  bk : CS K W D'.bk D.bk
  ct : CS K W D'.ct D.ct
structure SS (t : TS) (f : ATS) : Prop where
  run : ∀ {W S σ ρ H D D'}, In K W S H → ER K W σ ρ → f D' ρ S → SEnds K W D D' → t D σ H
end
section
variable {K : PySem.W.Frag} {W W' : Wd} {S : Sto} {H : Hp} {P : AV} {Q : VK} {I : Hp} {ad : List Addr}
theorem CS.up {P : AEnv → Sto → Prop} {Q : St → Hp → Prop} (l : W.Le W') (c : CS K W P Q) : CS K W' P Q := fun W2 S σ ρ H k I E h => c W2 S σ ρ H (l.trans k) I E h
theorem SEnds.up {D : Ends} {D' : AEnds} (l : W.Le W') (c : SEnds K W D D') : SEnds K W' D D' := ⟨c.nx.up l, c.rt.up l, c.bk.up l, c.ct.up l⟩
variable {t u : TS} {f g : ATS} {te : TE} {fe : ATE} {tt : TT} {ft : ATT} {ta : TA} {fa : ATA}
@[reducible] def aNext : ATS := fun D ρ S => D.nx ρ S
@[reducible] def aSeq (s t : ATS) : ATS := fun D ρ S => s { nx := t D, rt := D.rt, bk := D.bk, ct := D.ct } ρ S
def aJoin (s t : ATS) : ATS := fun D ρ S => ∃ M : AEnv → Sto → Prop, s { nx := M, rt := D.rt, bk := D.bk, ct := D.ct } ρ S ∧ ∀ ρ' S', M ρ' S' → t D ρ' S'
@[reducible] def aBreak : ATS := fun D ρ S => D.bk ρ S
@[reducible] def aCont : ATS := fun D ρ S => D.ct ρ S
@[reducible] def aDrop (e : ATE) : ATS := fun D ρ S => e ρ S fun _ S1 => D.nx ρ S1
@[reducible] def aRet (e : ATE) : ATS := fun D ρ S => e ρ S D.rt
@[reducible] def aRetN : ATS := fun D _ S => D.rt .non S
@[reducible] def aIfS (c : ATT) (s t : ATS) : ATS := fun D ρ S => c ρ S fun b S1 => br b (s D ρ S1) (t D ρ S1)
@[reducible] def aAsg (e : ATE) (g : AG) : ATS := fun D ρ S => e ρ S fun x S1 => g (.one x) ρ S1 D.nx
@[reducible] def aPar (i j : Nat) (a : ATA) : ATS := fun D ρ S => a ρ S fun ps S1 => match ps with
  | [p, q] => D.nx (put (put ρ i p) j q) S1
  | _ => False
@[reducible] def aPar3 (i j l : Nat) (a : ATA) : ATS := fun D ρ S => a ρ S fun ps S1 => match ps with
  | [p, q, r] => D.nx (put (put (put ρ i p) j q) l r) S1
  | _ => False
@[reducible] def aAug (i : Nat) (e : ATE) (g : A2) : ATS := fun D ρ S => match look ρ i with
  | some p => e ρ S fun y S1 => g p y S1 fun z S2 => D.nx (put ρ i z) S2
  | none => False
theorem ss_nil : SS K tNext aNext := ⟨fun I E h c => c.nx _ _ _ _ _ (.refl _) I E h⟩
theorem ss_cons (h1 : SS K t f) (h2 : SS K u g) : SS K (tSeq t u) (aSeq f g) := ⟨fun I E h c =>
  h1.run I E h ⟨fun W1 S1 σ1 ρ1 H1 l I1 E1 k => h2.run I1 E1 k (c.up l), c.rt, c.bk, c.ct⟩⟩
theorem ss_join (h1 : SS K t f) (h2 : SS K u g) : SS K (tJoin t u) (aJoin f g) := ⟨fun {W S σ ρ H D D'} I E ⟨M, h, k⟩ c =>
  ⟨fun τ G => ∃ W' S' ρ', W.Le W' ∧ In K W' S' G ∧ ER K W' τ ρ' ∧ M ρ' S',
    h1.run I E h ⟨fun W1 S1 σ1 ρ1 H1 l I1 E1 k => ⟨W1, S1, ρ1, l, I1, E1, k⟩, c.rt, c.bk, c.ct⟩,
    fun τ G ⟨W', S', ρ', l, I', E', m⟩ => h2.run I' E' (k ρ' S' m) (c.up l)⟩⟩
theorem ss_break : SS K tBreak aBreak := ⟨fun I E h c => c.bk _ _ _ _ _ (.refl _) I E h⟩
theorem ss_cont : SS K tCont aCont := ⟨fun I E h c => c.ct _ _ _ _ _ (.refl _) I E h⟩
theorem ss_expr (he : SE K te fe) : SS K (tDrop te) (aDrop fe) := ⟨fun I E h c =>
  he.run I E h fun W1 S1 x p H1 l1 I1 r1 h1 => c.nx _ _ _ _ _ l1 I1 (E.up l1.toLo) h1⟩
theorem ss_ret (he : SE K te fe) : SS K (tRet te) (aRet fe) := ⟨fun I E h c => he.run I E h c.rt⟩
theorem ss_retN : SS K tRetN aRetN := ⟨fun I E h c => c.rt.at I .non h⟩
theorem ss_if (hc : STs K tt ft) (h1 : SS K t f) (h2 : SS K u g) : SS K (tIfS tt t u) (aIfS ft f g) := ⟨fun I E h c =>
  hc.run I E h fun W1 S1 k H1 l1 I1 h3 => by
    cases k with
    | true => rw [if_pos rfl]; exact h1.run I1 (E.up l1.toLo) h3 (c.up l1)
    | false => rw [if_neg Bool.false_ne_true]; exact h2.run I1 (E.up l1.toLo) h3 (c.up l1)⟩
theorem ss_asg {g : TG} {fg : AG} {ws : List Nat} (he : SE K te fe) (hg : SG K g fg ws) : SS K (tAsg te g) (aAsg fe fg) := ⟨fun I E h c =>
  he.run I E h fun W1 S1 x p H1 l1 I1 r1 h1 => hg.run I1 (E.up l1.toLo) (.one r1) h1 fun W2 S2 σ2 ρ2 H2 l2 I2 E2 _ k => c.nx _ _ _ _ _ (l1.trans l2) I2 E2 k⟩
theorem ss_par {i j : Nat} (ha : SA K ta fa) : SS K (tPar i j ta) (aPar i j fa) := ⟨fun I E h c =>
  ha.run I E h fun W1 S1 xs ps H1 l1 I1 r1 h1 => by
    cases r1 with
    | nil => exact h1.elim
    | cons r1 r2 => cases r2 with
      | nil => exact h1.elim
      | cons r2 r3 => cases r3 with
        | cons _ _ => exact h1.elim
        | nil => exact ⟨_, _, rfl, c.nx _ _ _ _ _ l1 I1 (((E.up l1.toLo).put r1 i).put r2 j) h1⟩⟩
theorem ss_par3 {i j l : Nat} (ha : SA K ta fa) : SS K (tPar3 i j l ta) (aPar3 i j l fa) := ⟨fun I E h c =>
  ha.run I E h fun W1 S1 xs ps H1 l1 I1 r1 h1 => by
    cases r1 with
    | nil => exact h1.elim
    | cons r1 r2 => cases r2 with
      | nil => exact h1.elim
      | cons r2 r3 => cases r3 with
        | nil => exact h1.elim
        | cons r3 r4 => cases r4 with
          | cons _ _ => exact h1.elim
          | nil => exact ⟨_, _, _, rfl, c.nx _ _ _ _ _ l1 I1 ((((E.up l1.toLo).put r1 i).put r2 j).put r3 l) h1⟩⟩
theorem ss_aug {i : Nat} {r : R2} {g : A2} (he : SE K te fe) (hr : SO K r g) : SS K (tAug i te r) (aAug i fe g) := ⟨fun {W S σ ρ H D D'} I E h c => by
  unfold aAug at h
  cases e : look ρ i with
  | none => rw [e] at h; exact h.elim
  | some p =>
    rw [e] at h
    obtain ⟨v, h1, h2⟩ := E.look e
    exact ⟨v, h1, he.run I E h fun W1 S1 y q H1 l1 I1 r1 k1 => hr.run I1 (h2.up l1.toLo) r1 k1 fun W2 S2 z pz H2 l2 I2 r2 k2 => c.nx _ _ _ _ _ (l1.trans l2) I2 ((E.up (l1.trans l2).toLo).put r2 i) k2⟩⟩
/-! ### loops -/
def aLoop (C : Sto → Prop) (its : List AItem) (g : AG) (b : ATS) (D : AEnds) (ρ : AEnv) (S : Sto) : Prop :=
  ∃ Iv : Nat → AEnv → Sto → Prop, Iv 0 ρ S ∧ ∀ i ρ S, Iv i ρ S → C S ∧ ((i = its.length ∧ D.nx ρ S) ∨ ∃ it, its[i]? = some it ∧ g it ρ S fun ρ1 S1 => b { nx := Iv (i + 1), ct := Iv (i + 1), bk := D.nx, rt := D.rt } ρ1 S1)
@[reducible] def aFor (w : ATI) (g : AG) (b : ATS) : ATS := fun D ρ S => w ρ S fun C its S1 => aLoop C its g b D ρ S1
theorem ss_for {wi : TI} {fi : ATI} {g : TG} {fg : AG} {ws : List Nat} (hi : SI K wi fi) (hg : SG K g fg ws) (hb : SS K t f) : SS K (tFor wi g t) (aFor fi fg f) := ⟨fun {W S σ ρ H D D'} I E h c =>
  hi.run I E h fun W1 S1 J C its H1 l1 I1 y ⟨Iv, h0, step⟩ => by
    refine ⟨fun i m σ H => ∃ W2 S2 ρ2, W1.Le W2 ∧ In K W2 S2 H ∧ ER K W2 σ ρ2 ∧ Iv i ρ2 S2 ∧ i ≤ its.length ∧ m = its.length - i, ⟨its.length - 0, W1, S1, ρ, .refl _, I1, E.up l1.toLo, h0, Nat.zero_le _, rfl⟩, ?_⟩
    rintro i m σ2 H2 ⟨W2, S2, ρ2, l2, I2, E2, iv, hle, rfl⟩
    obtain ⟨hC, h⟩ := step i ρ2 S2 iv
    rcases h with ⟨rfl, h⟩ | ⟨it, e, h⟩
    · exact .inl ⟨y.stop W2 S2 H2 l2.toLo I2 hC, c.nx _ _ _ _ _ (l1.trans l2) I2 E2 h⟩
    · have hlt := (List.getElem?_eq_some_iff.mp e).1
      refine .inr ⟨y.go W2 S2 H2 i l2.toLo I2 hC hlt, fun σ H => ∃ W3 S3 ρ3, W1.Le W3 ∧ In K W3 S3 H ∧ ER K W3 σ ρ3 ∧ Iv (i + 1) ρ3 S3, fun σ3 H3 ⟨W3, S3, ρ3, l3, I3, E3, iv3⟩ => ⟨its.length - (i + 1), by omega, W3, S3, ρ3, l3, I3, E3, iv3, hlt, rfl⟩, fun x H3 hy => ?_⟩
      obtain ⟨I3, r3⟩ := y.yld W2 S2 H2 i it x H3 l2.toLo I2 hC e hy
      exact hg.run I3 E2 r3 h fun W4 S4 σ4 ρ4 H4 l4 I4 E4 _ k4 => hb.run I4 E4 k4
        ⟨fun W5 S5 σ5 ρ5 H5 l5 I5 E5 k5 => ⟨W5, S5, ρ5, (l2.trans l4).trans l5, I5, E5, k5⟩, c.rt.up ((l1.trans l2).trans l4), c.nx.up ((l1.trans l2).trans l4), fun W5 S5 σ5 ρ5 H5 l5 I5 E5 k5 => ⟨W5, S5, ρ5, (l2.trans l4).trans l5, I5, E5, k5⟩⟩⟩
def aWhile (cn : ATT) (b : ATS) : ATS := fun D ρ S =>
  ∃ Iv : Nat → AEnv → Sto → Prop, (∃ m, Iv m ρ S) ∧ ∀ m ρ S, Iv m ρ S → cn ρ S fun k S1 => br k (∃ N : AEnv → Sto → Prop, (∀ ρ' S', N ρ' S' → ∃ m', m' < m ∧ Iv m' ρ' S') ∧ b { nx := N, ct := N, bk := D.nx, rt := D.rt } ρ S1) (D.nx ρ S1)
theorem ss_while (hc : STs K tt ft) (hb : SS K t f) : SS K (tWhile tt t) (aWhile ft f) := ⟨fun {W S σ ρ H D D'} I E ⟨Iv, ⟨m0, h0⟩, step⟩ c => by
  refine ⟨fun m σ H => ∃ W2 S2 ρ2, W.Le W2 ∧ In K W2 S2 H ∧ ER K W2 σ ρ2 ∧ Iv m ρ2 S2, ⟨m0, W, S, ρ, .refl _, I, E, h0⟩, ?_⟩
  rintro m σ2 H2 ⟨W2, S2, ρ2, l2, I2, E2, iv⟩
  refine hc.run I2 E2 (step m ρ2 S2 iv) fun W3 S3 k H3 l3 I3 h3 => ?_
  cases k with
  | false => rw [if_neg Bool.false_ne_true]; exact c.nx _ _ _ _ _ (l2.trans l3) I3 (E2.up l3.toLo) h3
  | true =>
    rw [if_pos rfl]
    obtain ⟨N, hN, h4⟩ := h3
    refine ⟨fun σ H => ∃ W4 S4 ρ4, W.Le W4 ∧ In K W4 S4 H ∧ ER K W4 σ ρ4 ∧ N ρ4 S4, fun σ4 H4 ⟨W4, S4, ρ4, l4, I4, E4, n4⟩ => ?_, ?_⟩
    · obtain ⟨m', hm, iv'⟩ := hN ρ4 S4 n4
      exact ⟨m', hm, W4, S4, ρ4, l4, I4, E4, iv'⟩
    · exact hb.run I3 (E2.up l3.toLo) h4 ⟨fun W5 S5 σ5 ρ5 H5 l5 I5 E5 k5 => ⟨W5, S5, ρ5, (l2.trans l3).trans l5, I5, E5, k5⟩, c.rt.up (l2.trans l3), c.nx.up (l2.trans l3), fun W5 S5 σ5 ρ5 H5 l5 I5 E5 k5 => ⟨W5, S5, ρ5, (l2.trans l3).trans l5, I5, E5, k5⟩⟩⟩
/-! ### comprehensions -/
def aComp (C : Sto → Prop) (its : List AItem) (g : AG) (at' : ATT) (ae : ATE) (ρ : AEnv) (S : Sto) (R : List PV → Sto → Prop) : Prop :=
  ∃ Iv : Nat → Sto → List PV → Prop, Iv 0 S [] ∧ ∀ i S acc, Iv i S acc → C S ∧ ((i = its.length ∧ R acc S) ∨ ∃ it, its[i]? = some it ∧ g it ρ S fun ρ2 S2 => at' ρ2 S2 fun b S3 =>
    br b (ae ρ2 S3 fun y S4 => acc.length < sizeLine ∧ Iv (i + 1) S4 (acc ++ [y])) (Iv (i + 1) S3 acc))
@[reducible] def aLc (w : ATI) (g : AG) (at' : ATT) (ae : ATE) (vs : List Nat) : ATE := fun ρ S P => w ρ S fun C its S1 => aComp C its g at' ae (hides ρ vs) S1 fun acc S2 => P (.lst acc) S2
@[reducible] def aLcO (w : ATI) (g : AG) (at' : ATT) (ae : ATE) (vs : List Nat) : ATE := fun ρ S P => w ρ S fun C its S1 => aComp C its g at' ae (hides ρ vs) S1 fun acc S2 => P (.own S2.length) (S2 ++ [.lst acc])
theorem lc_core {wi : TI} {fi : ATI} {g : TG} {fg : AG} {ws vs : List Nat} (hi : SI K wi fi) (hg : SG K g fg ws) (hw : ∀ i ∈ ws, i ∈ vs) (ht : STs K tt ft) (he : SE K te fe) {σ : St} {ρ : AEnv} {R : List PV → Sto → Prop} (I : In K W S H) (E : ER K W σ ρ)
    (h : fi ρ S fun C its S1 => aComp C its fg ft fe (hides ρ vs) S1 R)
    (c : ∀ W' S' p us acc H', W.Le W' → In K ⟨W'.I, W'.ad, (p, .lst us) :: W'.fr⟩ S' H' → VRs K W'.I W'.ad us acc → R acc S' → Q (.ref p) H') : tLc wi g tt te vs σ H Q :=
  hi.run I E h fun W1 S1 J C its H1 l1 I1 y ⟨Iv, h0, step⟩ => by
    intro D hD
    refine ⟨fun i m H => ∃ W2 S2 us acc, W1.Le W2 ∧ In K ⟨W2.I, W2.ad, (D, .lst us) :: W1.fr⟩ S2 H ∧ VRs K W2.I W2.ad us acc ∧ Iv i S2 acc ∧ i ≤ its.length ∧ m = its.length - i, ⟨its.length - 0, W1, S1, [], [], .refl _, I1.push hD, .nil, h0, Nat.zero_le _, rfl⟩, ?_⟩
    rintro i m H2 ⟨W2, S2, us, acc, l2, I2, ra, iv, hle, rfl⟩
    obtain ⟨hC, h⟩ := step i S2 acc iv
    have lo : W1.Lo ⟨W2.I, W2.ad, (D, .lst us) :: W1.fr⟩ := ⟨l2.ex, l2.ad⟩
    rcases h with ⟨rfl, h⟩ | ⟨it, e, h⟩
    · refine .inl ⟨y.stop _ S2 H2 lo I2 hC, c W2 S2 D us acc H2 (l1.trans l2) ?_ ra h⟩
      rw [l2.fr]
      exact I2
    · have hlt := (List.getElem?_eq_some_iff.mp e).1
      refine .inr ⟨y.go _ S2 H2 i lo I2 hC hlt, fun H => ∃ W3 S3 us3 acc3, W1.Le W3 ∧ In K ⟨W3.I, W3.ad, (D, .lst us3) :: W1.fr⟩ S3 H ∧ VRs K W3.I W3.ad us3 acc3 ∧ Iv (i + 1) S3 acc3, fun H3 ⟨W3, S3, us3, acc3, l3, I3, r3, iv3⟩ => ⟨its.length - (i + 1), by omega, W3, S3, us3, acc3, l3, I3, r3, iv3, hlt, rfl⟩, fun x H3 hy => ?_⟩
      obtain ⟨I3, r3⟩ := y.yld _ S2 H2 i it x H3 lo I2 hC e hy
      have E3 : ER K ⟨W2.I, W2.ad, (D, .lst us) :: W1.fr⟩ (wipe σ vs) (hides ρ vs) := (E.wipe vs).up (W' := ⟨W2.I, W2.ad, (D, .lst us) :: W1.fr⟩) ⟨l1.ex.trans l2.ex, fun k a e => l2.ad k a (l1.ad k a e)⟩
      refine hg.run I3 E3 r3 h fun W4 S4 σ4 ρ4 H4 l4 I4 E4 fx k4 => ⟨?_, ht.run I4 E4 k4 fun W5 S5 b H5 l5 I5 k5 => ?_⟩
      · have := fx vs hw
        rw [this]
        have idem : ∀ (zs vs : List Nat), (∀ i ∈ zs, i ∈ vs) → wipe (wipe σ vs) zs = wipe σ vs := by
          intro zs vs hz
          induction zs with
          | nil => rfl
          | cons z zs ih =>
            show (wipe (wipe σ vs) zs).set z none = wipe σ vs
            rw [ih fun i hi => hz i (List.mem_cons_of_mem _ hi)]
            have hm := hz z List.mem_cons_self
            clear ih hz
            have none_at : ∀ {vs : List Nat}, z ∈ vs → (wipe σ vs).set z none = wipe σ vs := by
              intro vs
              induction vs with
              | nil => intro h; cases h
              | cons v vs ih =>
                intro h
                unfold wipe
                by_cases hv : z = v
                · subst hv; rw [List.set_set]
                · rcases List.mem_cons.mp h with rfl | h
                  · exact absurd rfl hv
                  · rw [List.set_comm _ _ (fun e => hv e.symm), ih h]
            exact none_at hm
        exact idem vs vs fun _ h => h
      · have l45 := l4.trans l5
        cases b with
        | false =>
          rw [if_neg Bool.false_ne_true]
          have k5 : Iv (i + 1) S5 acc := k5
          obtain ⟨I5x, ad5, fr5⟩ := W5
          have hf : fr5 = (D, .lst us) :: W1.fr := l45.fr
          subst hf
          exact ⟨⟨I5x, ad5, W1.fr⟩, S5, us, acc, ⟨⟨l2.ex.trans l45.ex, fun k a e => l45.ad k a (l2.ad k a e)⟩, rfl⟩, I5, ra.up (W := ⟨W2.I, W2.ad, []⟩) (W' := ⟨I5x, ad5, []⟩) ⟨l45.ex, l45.ad⟩, k5⟩
        | true =>
          rw [if_pos rfl]
          refine he.run I5 (E4.up l5.toLo) k5 fun W6 S6 z pz H6 l6 I6 r6 ⟨hz, k6⟩ => ?_
          have l46 := l45.trans l6
          obtain ⟨I6x, ad6, fr6⟩ := W6
          have hf : fr6 = (D, .lst us) :: W1.fr := l46.fr
          subst hf
          obtain ⟨hD6, up⟩ := I6.pop
          have ra6 : VRs K I6x ad6 us acc := ra.up (W := ⟨W2.I, W2.ad, []⟩) (W' := ⟨I6x, ad6, []⟩) ⟨l46.ex, l46.ad⟩
          exact ⟨us, hD6, by rw [ra.length]; exact hz, ⟨I6x, ad6, W1.fr⟩, S6, us ++ [z], acc ++ [pz], ⟨⟨l2.ex.trans l46.ex, fun k a e => l46.ad k a (l2.ad k a e)⟩, rfl⟩, up _, ra6.append (.cons r6 .nil), k6⟩
theorem se_lc {wi : TI} {fi : ATI} {g : TG} {fg : AG} {ws vs : List Nat} (hi : SI K wi fi) (hg : SG K g fg ws) (hw : ∀ i ∈ ws, i ∈ vs) (ht : STs K tt ft) (he : SE K te fe) : SE K (tLc wi g tt te vs) (aLc fi fg ft fe vs) := ⟨fun {W S σ ρ H Q P} I E h c =>
  lc_core hi hg hw ht he I E h fun W' S' p us acc H' l I' r k => by
    obtain ⟨I2, l2, r2⟩ := I'.fin r
    exact c _ _ _ _ _ ⟨⟨l.ex.trans l2.ex, fun k a e => l2.ad k a (l.ad k a e)⟩, l.fr⟩ I2 r2 k⟩
theorem se_lcO {wi : TI} {fi : ATI} {g : TG} {fg : AG} {ws vs : List Nat} (hi : SI K wi fi) (hg : SG K g fg ws) (hw : ∀ i ∈ ws, i ∈ vs) (ht : STs K tt ft) (he : SE K te fe) : SE K (tLc wi g tt te vs) (aLcO fi fg ft fe vs) := ⟨fun {W S σ ρ H Q P} I E h c =>
  lc_core hi hg hw ht he I E h fun W' S' p us acc H' l I' r k => by
    obtain ⟨I2, l2, r2⟩ := I'.finO r
    exact c _ _ _ _ _ ⟨⟨l.ex.trans l2.ex, fun k a e => l2.ad k a (l.ad k a e)⟩, l.fr⟩ I2 r2 k⟩
/-! ### defs -/
def cSp (K : PySem.W.Frag) (g : AL) : Sp := fun vs H Q _ => ∃ W S ps P, In K W S H ∧ VRs K W.I W.ad vs ps ∧ g ps S P ∧ CE K W P Q
theorem se_call {g : AL} (ha : SA K ta fa) : SE K (tCall (cSp K g) [] E0 ta) (aCB g fa) := ⟨fun {W S σ ρ H Q P} I E h c =>
  ha.run I E h fun W1 S1 xs ps H1 l1 I1 r1 h1 => ⟨W1, S1, ps, P, I1, by rw [List.append_nil]; exact r1, h1, c.up l1⟩⟩
@[reducible] def startA : List Str → List PV → AEnv
  | [], _ => []
  | _ :: N, v :: vs => some v :: startA N vs
  | _ :: N, [] => none :: startA N []
theorem ER.start : ∀ {N : List Str} {us : List V} {ps : List PV}, VRs K W.I W.ad us ps → us.length ≤ N.length → ER K W (L2.start N us) (startA N ps)
  | [], us, ps, r, h => by
    cases r with
    | nil => exact .nil
    | cons _ _ => exact absurd h (by simp)
  | x :: N, us, ps, r, h => by
    cases r with
    | nil =>
      have e : L2.start (x :: N) [] = none :: L2.start N [] := by unfold L2.start; simp [List.replicate_succ]
      rw [e]
      exact .any (ER.start (us := []) (ps := []) .nil (Nat.zero_le _))
    | cons r rs =>
      rename_i v p vs qs
      have e : L2.start (x :: N) (v :: vs) = some v :: L2.start N vs := by unfold L2.start; simp
      rw [e]
      exact .cons r (ER.start rs (by simpa using h))
theorem okA {P : Program} {w : World} {mg : Str → Option Value} {base : Heap} {x qual : Str} {st : Stmt} {f : Addr} {fd : FuncData} {N ps : List Str} {k : Nat} {asp : AL} {t : TS} {fs : ATS} (F : Fun K x qual st f fd) (Sc : FnScope N ps (defScope st))
    (hp : ∀ (cdv : Value) (A : Around) (outer : List Env) (s : Shared) (H : Hp) (E : XK), (A.deeper (envOfC qual (defScope st) s.heap.objs.size f cdv)).guards = some [] → Room k (A.deeper (envOfC qual (defScope st) s.heap.objs.size f cdv)) → PSs (cxOf CX0 P w K mg base N qual (defScope st) f cdv A outer s H E).nox (defBody st) t)
    (hs : SS K t fs) (hN : ps.length ≤ N.length) (hlen : ∀ vs S R, asp vs S R → vs.length = ps.length) (h : ∀ vs S R, asp vs S R → fs { nx := fun _ S => R .non S, rt := R } (startA N vs) S) : FnG P w K mg base CX0 (k + 1) f fd ps (cSp K asp) := by
  refine okG F Sc (fun vs H Q E h => ?_) (fun cdv A outer s H vs Q E hgd hr h2 => ⟨t, hp cdv A outer s H E hgd hr, ?_⟩)
  · obtain ⟨W, S, qs, R, _, r, h3, _⟩ := h
    rw [r.length]
    exact hlen _ _ _ h3
  · obtain ⟨W, S, qs, R, I, r, h3, c⟩ := h2
    exact hs.run I (ER.start r (by rw [r.length, hlen _ _ _ h3]; exact hN)) (h _ _ _ h3) ⟨fun W' S' σ ρ H' l I' _ k => c _ _ _ _ _ l I' .non k, c, fun _ _ _ _ _ _ _ _ k => k.elim, fun _ _ _ _ _ _ _ _ k => k.elim⟩
end
/-- a def called by keywords: the arguments in another order -/
def pickL {α : Type} (sel : List Nat) (vs : List α) : List α := sel.filterMap fun i => vs[i]?
def askOf (sel : List Nat) (n : Nat) (g : AL) : AL := fun vs S P => vs.length = n ∧ g (pickL sel vs) S P
theorem VRs.pick {K : PySem.W.Frag} {I : Hp} {ad : List Addr} {vs : List V} {ps : List PV} (h : VRs K I ad vs ps) : ∀ sel : List Nat, VRs K I ad (pickL sel vs) (pickL sel ps)
  | [] => .nil
  | i :: sel => by
    have ih := VRs.pick h sel
    unfold pickL at ih ⊢
    rw [List.filterMap_cons, List.filterMap_cons]
    cases e : vs[i]? with
    | none =>
      have e2 : ps[i]? = none := by
        rw [List.getElem?_eq_none_iff] at e ⊢
        rw [← h.length]; exact e
      rw [e2]
      exact ih
    | some v =>
      obtain ⟨p, hp, r⟩ := h.getV e
      rw [hp]
      exact .cons r ih
theorem vals_pick {vs : List V} {us : List Value} (h : Vals vs us) : ∀ sel : List Nat, Vals (pickL sel vs) (pickL sel us)
  | [] => .nil
  | i :: sel => by
    have ih := vals_pick h sel
    have hl : vs.length = us.length := h.length
    unfold pickL at ih ⊢
    rw [List.filterMap_cons, List.filterMap_cons]
    cases e : vs[i]? with
    | none =>
      have e2 : us[i]? = none := by
        rw [List.getElem?_eq_none_iff] at e ⊢
        rw [← hl]; exact e
      rw [e2]
      exact ih
    | some v =>
      obtain ⟨u, hu, r⟩ := h.get e
      rw [hu]
      exact .cons r ih
theorem cgk_of {P : Program} {w : World} {K : PySem.W.Frag} {mg : Str → Option Value} {base : Heap} {k : Nat} {x : Str} {f : Addr} {fd : FuncData} {ps ks : List Str} {g : AL} (sel : List Nat) (F : FnG P w K mg base CX0 k f fd ps (cSp K g)) (hm : mg x = some (.ref f)) (kp : PySem.W.keepIn K (.ref f) = true)
    (to : ∀ (s : Shared) (ws : List Value), K.In s.heap → ws.length = ks.length → BindsTo s fd ⟨[], ks.zip ws⟩ (ps.zip (pickL sel ws))) : Cgk P w K mg base CX0 k x ks (cSp K (askOf sel ks.length g)) :=
  ⟨⟨f, fd, ps, pickL sel, pickL sel, _, F, hm, kp, to, fun zs ws _ h => vals_pick h sel, fun zs H Q E h => by
    obtain ⟨W, S, qs, R, I, r, ⟨hl, hg⟩, c⟩ := h
    exact ⟨by rw [r.length]; exact hl, W, S, _, R, I, r.pick sel, hg, c⟩⟩⟩
/-- how a law's def begins -/
theorem law_start {K : PySem.W.Frag} {H : Hp} {a : Addr} {ns : List Int} {g : AL} {E : XK} (hS : SqL K H a (ns.map V.int)) (h : g [.scr ns] [] fun p _ => p = .bl true) : cSp K g [.ref a] H (fun v _ => v = .bl true) E :=
  ⟨⟨H, [], []⟩, [], [.scr ns], _, ⟨[], ⟨Ex.refl H, fun p hp => absurd hp List.not_mem_nil, List.Pairwise.nil⟩, rfl, rfl, fun k o a e => by cases e⟩, .cons (.scr hS) .nil, h, fun W' S v p H' _ _ r e => by subst e; cases r; rfl⟩
def pk {K : PySem.W.Frag} {t : TS} {f : ATS} (h : SS K t f) : {tf : TS × ATS // SS K tf.1 tf.2} := ⟨(t, f), h⟩
/-! ### steps -/
section
variable {A B : Prop} {p : Prop} [Decidable p] {c : Bool}
theorem r_br (h1 : p → A) (h2 : ¬ p → B) : br (decide p) A B := by
  by_cases h : p
  · rw [decide_eq_true h]; exact h1 h
  · rw [decide_eq_false h]; exact h2 h
theorem r_brT (h : A) : br true A B := h
theorem r_brF (h : B) : br false A B := h
theorem r_brN (h : br c B A) : br (!c) A B := by cases c <;> exact h
theorem r_by (hp : p) (h : A) : br (decide p) A B := by rw [decide_eq_true hp]; exact h
theorem r_bn (hp : ¬ p) (h : B) : br (decide p) A B := by rw [decide_eq_false hp]; exact h
theorem r_bb (h1 : c = true → A) (h2 : c = false → B) : br c A B := by
  cases c with
  | true => exact h1 rfl
  | false => exact h2 rfl
theorem r_br3 {p q : Prop} [Decidable p] [Decidable q] {A X Y : Prop} (e : br (decide q) X Y → A) (h1 : p → q → X) (hY : ¬ (p ∧ q) → Y) : br (decide p) A Y := by
  by_cases hp : p
  · rw [decide_eq_true hp]
    refine e ?_
    by_cases hq : q
    · rw [decide_eq_true hq]; exact h1 hp hq
    · rw [decide_eq_false hq]; exact hY fun z => hq z.2
  · rw [decide_eq_false hp]; exact hY fun z => hp z.1
theorem r_onL {o : Option (List PV)} {xs : List PV} {P : List PV → Prop} (e : o = some xs) (h : P xs) : onL o P := by subst e; exact h
theorem r_onO {α : Type} {o : Option α} {x : α} {P : α → Prop} (e : o = some x) (h : P x) : onO o P := ⟨x, e, h⟩
variable {C : Sto → Prop} {its : List AItem} {g : AG} {b : ATS} {D : AEnds} {ρ : AEnv} {S : Sto}
theorem loop_inv (Iv : Nat → AEnv → Sto → Prop) (h0 : Iv 0 ρ S) (hC : ∀ i ρ S, Iv i ρ S → C S) (hs : ∀ i it ρ S, its[i]? = some it → Iv i ρ S → g it ρ S fun ρ1 S1 => b { nx := Iv (i + 1), ct := Iv (i + 1), bk := D.nx, rt := D.rt } ρ1 S1)
    (hd : ∀ ρ S, Iv its.length ρ S → D.nx ρ S) : aLoop C its g b D ρ S := by
  refine ⟨fun i ρ S => i ≤ its.length ∧ Iv i ρ S, ⟨Nat.zero_le _, h0⟩, fun i ρ S ⟨hi, iv⟩ => ⟨hC i ρ S iv, ?_⟩⟩
  by_cases h : i = its.length
  · subst h
    exact .inl ⟨rfl, hd ρ S iv⟩
  · have hlt : i < its.length := by omega
    have e : its[i]? = some its[i] := List.getElem?_eq_getElem hlt
    have e2 : (fun ρ S => i + 1 ≤ its.length ∧ Iv (i + 1) ρ S) = Iv (i + 1) := by
      funext ρ S
      exact propext ⟨fun z => z.2, fun z => ⟨hlt, z⟩⟩
    refine .inr ⟨_, e, ?_⟩
    show g its[i] ρ S fun ρ1 S1 => b { nx := fun ρ S => i + 1 ≤ its.length ∧ Iv (i + 1) ρ S, ct := fun ρ S => i + 1 ≤ its.length ∧ Iv (i + 1) ρ S, bk := D.nx, rt := D.rt } ρ1 S1
    rw [e2]
    exact hs i _ ρ S e iv
/-- over what stays as it is -/
theorem loop_one {xs : List PV} (Iv : Nat → AEnv → Sto → Prop) (h0 : Iv 0 ρ S) (hs : ∀ i x ρ S, xs[i]? = some x → Iv i ρ S → g (.one x) ρ S fun ρ1 S1 => b { nx := Iv (i + 1), ct := Iv (i + 1), bk := D.nx, rt := D.rt } ρ1 S1)
    (hd : ∀ ρ S, Iv xs.length ρ S → D.nx ρ S) : aLoop cT (xs.map .one) g b D ρ S :=
  loop_inv Iv h0 (fun _ _ _ _ => trivial) (fun i it ρ S e iv => by
    obtain ⟨x, hx, rfl⟩ := one_get e
    exact hs i x ρ S hx iv) fun ρ S iv => hd ρ S (by rw [List.length_map] at iv; exact iv)
theorem loop_rng {lo : Int} {n : Nat} (Iv : Nat → AEnv → Sto → Prop) (h0 : Iv 0 ρ S) (hs : ∀ i ρ S, i < n → Iv i ρ S → g (.one (.int (lo + (i : Nat)))) ρ S fun ρ1 S1 => b { nx := Iv (i + 1), ct := Iv (i + 1), bk := D.nx, rt := D.rt } ρ1 S1)
    (hd : ∀ ρ S, Iv n ρ S → D.nx ρ S) : aLoop cT (rngI lo n) g b D ρ S :=
  loop_inv Iv h0 (fun _ _ _ _ => trivial) (fun i it ρ S e iv => by
    obtain ⟨hi, rfl⟩ := rngI_get e
    exact hs i ρ S hi iv) fun ρ S iv => hd ρ S (by rw [rngI_len] at iv; exact iv)
theorem loop_rng0 {n : Nat} (Iv : Nat → AEnv → Sto → Prop) (h0 : Iv 0 ρ S) (hs : ∀ i ρ S, i < n → Iv i ρ S → g (.one (.int (i : Nat))) ρ S fun ρ1 S1 => b { nx := Iv (i + 1), ct := Iv (i + 1), bk := D.nx, rt := D.rt } ρ1 S1)
    (hd : ∀ ρ S, Iv n ρ S → D.nx ρ S) : aLoop cT (rngI 0 n) g b D ρ S := loop_rng Iv h0 (fun i ρ S hi iv => by rw [Int.zero_add]; exact hs i ρ S hi iv) hd
theorem loop_enum {xs : List PV} (Iv : Nat → AEnv → Sto → Prop) (h0 : Iv 0 ρ S) (hs : ∀ i x ρ S, xs[i]? = some x → Iv i ρ S → g (.many [.int (i : Nat), x]) ρ S fun ρ1 S1 => b { nx := Iv (i + 1), ct := Iv (i + 1), bk := D.nx, rt := D.rt } ρ1 S1)
    (hd : ∀ ρ S, Iv xs.length ρ S → D.nx ρ S) : aLoop cT (enumI 0 xs) g b D ρ S :=
  loop_inv Iv h0 (fun _ _ _ _ => trivial) (fun i it ρ S e iv => by
    obtain ⟨x, hx, rfl⟩ := enumI_get e
    rw [Nat.zero_add]
    exact hs i x ρ S hx iv) fun ρ S iv => hd ρ S (by rw [enumI_len] at iv; exact iv)
theorem loop_zip {xs ys : List PV} (Iv : Nat → AEnv → Sto → Prop) (h0 : Iv 0 ρ S) (hs : ∀ i x y ρ S, xs[i]? = some x → ys[i]? = some y → Iv i ρ S → g (.many [x, y]) ρ S fun ρ1 S1 => b { nx := Iv (i + 1), ct := Iv (i + 1), bk := D.nx, rt := D.rt } ρ1 S1)
    (hd : ∀ ρ S, Iv (min xs.length ys.length) ρ S → D.nx ρ S) : aLoop cT (zipI xs ys) g b D ρ S :=
  loop_inv Iv h0 (fun _ _ _ _ => trivial) (fun i it ρ S e iv => by
    obtain ⟨x, y, hx, hy, rfl⟩ := zipI_get e
    exact hs i x y ρ S hx hy iv) fun ρ S iv => hd ρ S (by rw [zipI_len] at iv; exact iv)
variable {at' : ATT} {ae : ATE} {R : List PV → Sto → Prop}
theorem comp_inv (Iv : Nat → Sto → List PV → Prop) (h0 : Iv 0 S []) (hC : ∀ i S acc, Iv i S acc → C S) (hs : ∀ i it S acc, its[i]? = some it → Iv i S acc → g it ρ S fun ρ2 S2 => at' ρ2 S2 fun b S3 => br b (ae ρ2 S3 fun y S4 => acc.length < sizeLine ∧ Iv (i + 1) S4 (acc ++ [y])) (Iv (i + 1) S3 acc))
    (hd : ∀ S acc, Iv its.length S acc → R acc S) : aComp C its g at' ae ρ S R := by
  refine ⟨fun i S acc => i ≤ its.length ∧ Iv i S acc, ⟨Nat.zero_le _, h0⟩, fun i S acc ⟨hi, iv⟩ => ⟨hC i S acc iv, ?_⟩⟩
  by_cases h : i = its.length
  · subst h
    exact .inl ⟨rfl, hd S acc iv⟩
  · have hlt : i < its.length := by omega
    have e : its[i]? = some its[i] := List.getElem?_eq_getElem hlt
    have e2 : (fun S acc => i + 1 ≤ its.length ∧ Iv (i + 1) S acc) = Iv (i + 1) := by
      funext ρ S
      exact propext ⟨fun z => z.2, fun z => ⟨hlt, z⟩⟩
    refine .inr ⟨_, e, ?_⟩
    show g its[i] ρ S fun ρ2 S2 => at' ρ2 S2 fun b S3 => br b (ae ρ2 S3 fun y S4 => acc.length < sizeLine ∧ (fun S acc => i + 1 ≤ its.length ∧ Iv (i + 1) S acc) S4 (acc ++ [y])) ((fun S acc => i + 1 ≤ its.length ∧ Iv (i + 1) S acc) S3 acc)
    rw [e2]
    exact hs i _ S acc e iv
theorem comp_one {xs : List PV} (Iv : Nat → Sto → List PV → Prop) (h0 : Iv 0 S []) (hs : ∀ i x S acc, xs[i]? = some x → Iv i S acc → g (.one x) ρ S fun ρ2 S2 => at' ρ2 S2 fun b S3 => br b (ae ρ2 S3 fun y S4 => acc.length < sizeLine ∧ Iv (i + 1) S4 (acc ++ [y])) (Iv (i + 1) S3 acc))
    (hd : ∀ S acc, Iv xs.length S acc → R acc S) : aComp cT (xs.map .one) g at' ae ρ S R :=
  comp_inv Iv h0 (fun _ _ _ _ => trivial) (fun i it S acc e iv => by
    obtain ⟨x, hx, rfl⟩ := one_get e
    exact hs i x S acc hx iv) fun S acc iv => hd S acc (by rw [List.length_map] at iv; exact iv)
theorem comp_rng {lo : Int} {n : Nat} (Iv : Nat → Sto → List PV → Prop) (h0 : Iv 0 S []) (hs : ∀ i S acc, i < n → Iv i S acc → g (.one (.int (lo + (i : Nat)))) ρ S fun ρ2 S2 => at' ρ2 S2 fun b S3 => br b (ae ρ2 S3 fun y S4 => acc.length < sizeLine ∧ Iv (i + 1) S4 (acc ++ [y])) (Iv (i + 1) S3 acc))
    (hd : ∀ S acc, Iv n S acc → R acc S) : aComp cT (rngI lo n) g at' ae ρ S R :=
  comp_inv Iv h0 (fun _ _ _ _ => trivial) (fun i it S acc e iv => by
    obtain ⟨hi, rfl⟩ := rngI_get e
    exact hs i S acc hi iv) fun S acc iv => hd S acc (by rw [rngI_len] at iv; exact iv)
theorem comp_rng0 {n : Nat} (Iv : Nat → Sto → List PV → Prop) (h0 : Iv 0 S []) (hs : ∀ i S acc, i < n → Iv i S acc → g (.one (.int (i : Nat))) ρ S fun ρ2 S2 => at' ρ2 S2 fun b S3 => br b (ae ρ2 S3 fun y S4 => acc.length < sizeLine ∧ Iv (i + 1) S4 (acc ++ [y])) (Iv (i + 1) S3 acc))
    (hd : ∀ S acc, Iv n S acc → R acc S) : aComp cT (rngI 0 n) g at' ae ρ S R := comp_rng Iv h0 (fun i S acc hi iv => by rw [Int.zero_add]; exact hs i S acc hi iv) hd
theorem comp_enum {xs : List PV} (Iv : Nat → Sto → List PV → Prop) (h0 : Iv 0 S []) (hs : ∀ i x S acc, xs[i]? = some x → Iv i S acc → g (.many [.int (i : Nat), x]) ρ S fun ρ2 S2 => at' ρ2 S2 fun b S3 => br b (ae ρ2 S3 fun y S4 => acc.length < sizeLine ∧ Iv (i + 1) S4 (acc ++ [y])) (Iv (i + 1) S3 acc))
    (hd : ∀ S acc, Iv xs.length S acc → R acc S) : aComp cT (enumI 0 xs) g at' ae ρ S R :=
  comp_inv Iv h0 (fun _ _ _ _ => trivial) (fun i it S acc e iv => by
    obtain ⟨x, hx, rfl⟩ := enumI_get e
    rw [Nat.zero_add]
    exact hs i x S acc hx iv) fun S acc iv => hd S acc (by rw [enumI_len] at iv; exact iv)
theorem comp_zip {xs ys : List PV} (Iv : Nat → Sto → List PV → Prop) (h0 : Iv 0 S []) (hs : ∀ i x y S acc, xs[i]? = some x → ys[i]? = some y → Iv i S acc → g (.many [x, y]) ρ S fun ρ2 S2 => at' ρ2 S2 fun b S3 => br b (ae ρ2 S3 fun y S4 => acc.length < sizeLine ∧ Iv (i + 1) S4 (acc ++ [y])) (Iv (i + 1) S3 acc))
    (hd : ∀ S acc, Iv (min xs.length ys.length) S acc → R acc S) : aComp cT (zipI xs ys) g at' ae ρ S R :=
  comp_inv Iv h0 (fun _ _ _ _ => trivial) (fun i it S acc e iv => by
    obtain ⟨x, y, hx, hy, rfl⟩ := zipI_get e
    exact hs i x y S acc hx hy iv) fun S acc iv => hd S acc (by rw [zipI_len] at iv; exact iv)
end
end L4

/-! in, not in, index over data; what laws have in common. -/
namespace L4
open PySem PySem.Spec PyProof.Rows L2 L3
/-- t.index(x), t a tuple -/
def rIndexT (K : PySem.W.Frag) : V → List V → Hp → VK → Prop := fun x xs H Q => ∃ (a : Addr) (y : V) (d : PyData) (ds : List PyData) (j : Nat) (z : PyData), x = V.ref a ∧ xs = [y] ∧ Dp K H (V.ref a) (.tuple ds) ∧ Dp K H y d ∧
  SeqAt.shaped (.tuple ds) = true ∧ SeqAt.shaped d = true ∧ ds[j]? = some z ∧ PyData.eqv z d = true ∧ (∀ (m : Nat) (z' : PyData), m < j → ds[m]? = some z' → PyData.eqv z' d = false) ∧ Q (.int (j : Nat)) H
theorem mt_tindexD {X : Cx} (hu : X.A.units + 65 < cLine) : MtR X "tuple.index" (rIndexT X.K) := by
  intro pins s σ H x xs v us Q I rx rxs h
  obtain ⟨a, y, d, ds, j, z, rfl, rfl, hl, hy, sl, sd, hz, hzj, hno, q⟩ := h
  cases rx
  obtain ⟨uy, rfl, ry⟩ := vals1 rxs
  obtain ⟨bs, r1⟩ := Dp.reads I d y uy hy ry
  have hxs : PyData.canLayAll0 ds = true := SeqAt.canLay_of_shaped sl
  have hroom : X.A.units + 1 + min (PyData.depthAll ds) d.depth < cLine := room_in_shaped sd hu
  cases hl with
  | tup hs ha =>
    obtain ⟨its, rv, pl, hlen⟩ := I.tuple hs
    obtain ⟨⟨cls, dd, dt, sls⟩, ho, hc, n, hd⟩ := pl
    simp only at hc hd
    subst hc
    subst hd
    obtain ⟨as, h4⟩ := Dp.readsAll I ds _ its ha rv
    have hn : its.length = ds.length := SeqAt.ReadsAll.length ds its as h4
    have hmap : its.map (SeqAt.readOf s.heap) = ds := SeqAt.readsAll_map ds its as hxs h4
    obtain ⟨hjd, _⟩ := List.getElem?_eq_some_iff.mp hz
    have hj : j < its.toArray.size := by rw [List.size_toArray]; omega
    have get_ : ∀ (m : Nat) (hm : m < its.toArray.size) (z' : PyData), ds[m]? = some z' → SeqAt.readOf s.heap its.toArray[m] = z' := by
      intro m hm z' hz'
      have hml : m < its.length := by simpa using hm
      rw [← hmap, List.getElem?_map, List.getElem?_eq_getElem hml] at hz'
      have e1 : SeqAt.readOf s.heap its[m] = z' := Option.some.inj (show some (SeqAt.readOf s.heap its[m]) = some z' from hz')
      simpa using e1
    refine call_meets PySem.F.slot_tuple_index ⟨_, ho, rfl⟩ PySem.F.entry_tuple_index (PySem.F.args_tuple_index_2 _ _)
      (TI.tuple_indexAt a its.toArray n dd sls uy (fun u => PyData.eqv (SeqAt.readOf s.heap u) d) j hj ?_ ?_) ⟨ho, SeqAt.items_eqAt (vs := its.toArray) (show ReadsAll s.heap its.toArray.toList ds as from h4) r1 hxs (SeqAt.canLay_of_shaped sd) hroom, ?_⟩
    · show PyData.eqv (SeqAt.readOf s.heap its.toArray[j]) d = true
      rw [get_ j hj z hz]
      exact hzj
    · intro m hm hmj
      have hmd : m < ds.length := by omega
      have hz' : ds[m]? = some ds[m] := List.getElem?_eq_getElem hmd
      show PyData.eqv (SeqAt.readOf s.heap its.toArray[m]) d = false
      rw [get_ m hm _ hz']
      exact hno m _ hmj hz'
    · exact ⟨.int (j : Nat), H, I.tok _, ⟨_, rfl⟩, q⟩
theorem room_u {X : Cx} {k : Nat} (hr : Room k X.A) : X.A.units + 65 < cLine := by have := hr.un; omega
section
variable {K : PySem.W.Frag} {W : Wd} {S : Sto} {H : Hp} {P : AV} {Q : VK}
/-- the first place of an equal one -/
def FirstAt (xs : List PV) (y : PV) (j : Nat) : Prop := (∃ z, xs[j]? = some z ∧ PyData.eqv (dat z) (dat y) = true) ∧ ∀ (m : Nat) (z : PV), m < j → xs[m]? = some z → PyData.eqv (dat z) (dat y) = false
def indexOf (xs : List PV) (y : PV) (P : Nat → Prop) : Prop := ∃ j, FirstAt xs y j ∧ P j
@[reducible] def vIndexT : AM := fun x ys S P => on1 ys fun y => onT x fun xs => eqOk (.tup xs) ∧ eqOk y ∧ indexOf xs y fun j => P (.int (j : Nat)) S
@[reducible] def vIndexL : AM := fun x ys S P => on1 ys fun y => onL (lv x S) fun xs => eqOk (.lst xs) ∧ eqOk y ∧ indexOf xs y fun j => P (.int (j : Nat)) S
theorem first_dats {xs : List PV} {y : PV} {j : Nat} (h : FirstAt xs y j) : (∃ z, (dats xs)[j]? = some z ∧ PyData.eqv z (dat y) = true) ∧ ∀ (m : Nat) (z' : PyData), m < j → (dats xs)[m]? = some z' → PyData.eqv z' (dat y) = false := by
  obtain ⟨⟨z, h1, h2⟩, h3⟩ := h
  rw [dats_map]
  refine ⟨⟨dat z, by rw [List.getElem?_map, h1]; rfl, h2⟩, fun m z' hm e => ?_⟩
  obtain ⟨x, hx, rfl⟩ := map_at e
  exact h3 m x hm hx
theorem sm_indexT : SM K (rIndexT K) vIndexT := ⟨fun {W S x p xs ps H Q P} I r rs h c => by
  obtain ⟨v, q, rfl, rfl, r2, h1⟩ := rs.on1 h
  obtain ⟨ys, rfl, ⟨e1, e2⟩, ⟨e3, e4⟩, j, hj, h2⟩ := r.onT h1
  obtain ⟨⟨z, z1, z2⟩, z3⟩ := first_dats hj
  have d1 := Dp.up I.exH (r.dp e1)
  have d2 := Dp.up I.exH (r2.dp e3)
  rw [dat] at d1 e2
  cases r with
  | tup hf hs => exact ⟨_, v, _, _, j, z, rfl, rfl, d1, d2, e2, e4, z1, z2, z3, c.at I (.int _) h2⟩⟩
theorem sm_indexL : SM K (rIndexD K) vIndexL := ⟨fun {W S x p xs ps H Q P} I r rs h c => by
  obtain ⟨v, q, rfl, rfl, r2, h1⟩ := rs.on1 h
  obtain ⟨ys, e, ⟨e1, e2⟩, ⟨e3, e4⟩, j, hj, h2⟩ := onL_of h1
  obtain ⟨⟨z, z1, z2⟩, z3⟩ := first_dats hj
  obtain ⟨a, us, rfl, hq, r3⟩ := r.lv I e
  rw [nown] at e1
  rw [dat] at e2
  exact ⟨a, v, _, _, j, z, rfl, rfl, .lst hq (DpAll.up I.exH (r3.dp e1)), Dp.up I.exH (r2.dp e3), e2, e4, z1, z2, z3, c.at I (.int _) h2⟩⟩
@[reducible] def vIn : A2 := fun x y S P => onL (lv y S) fun xs => eqOk (.lst xs) ∧ eqOk x ∧ P (.bl (xs.any fun z => PyData.eqv (dat z) (dat x))) S
@[reducible] def vNotIn : A2 := fun x y S P => onL (lv y S) fun xs => eqOk (.lst xs) ∧ eqOk x ∧ P (.bl (!xs.any fun z => PyData.eqv (dat z) (dat x))) S
theorem any_dats (xs : List PV) (d : PyData) : (dats xs).any (fun z => PyData.eqv z d) = xs.any fun z => PyData.eqv (dat z) d := by
  rw [dats_map, List.any_map]
  rfl
theorem so_in : SO K (rInA K) vIn := ⟨fun {W S x y p q H Q P} I r1 r2 h c => by
  obtain ⟨xs, e, ⟨e1, e2⟩, ⟨e3, e4⟩, h⟩ := onL_of h
  obtain ⟨a, us, rfl, hq, r3⟩ := r2.lv I e
  rw [nown] at e1
  rw [dat] at e2
  exact .inr ⟨_, _, Dp.up I.exH (r1.dp e3), .lst hq (DpAll.up I.exH (r3.dp e1)), e4, e2, by rw [any_dats]; exact c.at I (.bl _) h⟩⟩
theorem so_notIn : SO K (rNotInA K) vNotIn := ⟨fun {W S x y p q H Q P} I r1 r2 h c => by
  obtain ⟨xs, e, ⟨e1, e2⟩, ⟨e3, e4⟩, h⟩ := onL_of h
  obtain ⟨a, us, rfl, hq, r3⟩ := r2.lv I e
  rw [nown] at e1
  rw [dat] at e2
  exact .inr ⟨_, _, Dp.up I.exH (r1.dp e3), .lst hq (DpAll.up I.exH (r3.dp e1)), e4, e2, by rw [any_dats]; exact c.at I (.bl _) h⟩⟩
end
/-! own lists within data -/
mutual
inductive Rsv (S : Sto) : PV → PV → Prop where
  | refl (x : PV) : Rsv S x x
  | own {k : Nat} {xs ys : List PV} : sget S k = some xs → Rsvs S xs ys → Rsv S (.own k) (.lst ys)
  | tup {xs ys : List PV} : Rsvs S xs ys → Rsv S (.tup xs) (.tup ys)
  | lst {xs ys : List PV} : Rsvs S xs ys → Rsv S (.lst xs) (.lst ys)
inductive Rsvs (S : Sto) : List PV → List PV → Prop where
  | refl (xs : List PV) : Rsvs S xs xs
  | cons {x y : PV} {xs ys : List PV} : Rsv S x y → Rsvs S xs ys → Rsvs S (x :: xs) (y :: ys)
end
section
variable {K : PySem.W.Frag} {W : Wd} {S : Sto} {H : Hp}
mutual
theorem Rsv.dp (I : In K W S H) : ∀ {v : V} {x y : PV}, VR K W.I W.ad v x → Rsv S x y → nown y = true → Dp K H v (dat y)
  | _, _, _, r, .refl _, e => Dp.up I.exH (r.dp e)
  | _, _, _, r, .own h hs, e => by
    obtain ⟨a, us, h1, h2, h3⟩ := r.lv I (xs := _) h
    subst h1
    rw [nown] at e
    rw [dat]
    exact .lst h2 (Rsvs.dp I h3 hs e)
  | _, _, _, r, .tup hs, e => by
    obtain ⟨a, us, h1, h2, h3⟩ := r.tupS I
    subst h1
    rw [nown] at e
    rw [dat]
    exact .tup h2 (Rsvs.dp I h3 hs e)
  | _, _, _, r, .lst hs, e => by
    obtain ⟨a, us, h1, h2, h3⟩ := r.lv I rfl
    subst h1
    rw [nown] at e
    rw [dat]
    exact .lst h2 (Rsvs.dp I h3 hs e)
theorem Rsvs.dp (I : In K W S H) : ∀ {vs : List V} {xs ys : List PV}, VRs K W.I W.ad vs xs → Rsvs S xs ys → nowns ys = true → DpAll K H vs (dats ys)
  | _, _, _, r, .refl _, e => DpAll.up I.exH (r.dp e)
  | _, _, _, .cons r rs, .cons h hs, e => by
    rw [nowns, Bool.and_eq_true] at e
    exact .cons (Rsv.dp I r h e.1) (Rsvs.dp I rs hs e.2)
end
/-- x as data -/
def rsvTo (x : PV) (S : Sto) (P : PV → Prop) : Prop := ∃ y, Rsv S x y ∧ rpOk y ∧ P y
@[reducible] def vReprD : AL := fun xs S P => on1 xs fun x => rsvTo x S fun y => P (.str (PyData.shown (dat y))) S
theorem sl_reprD : SL K (rRepr K) vReprD := ⟨fun {W S xs ps H Q P} I r h c => by
  obtain ⟨v, p, rfl, rfl, r, y, hr, ⟨⟨h1, k, h2, h3⟩, h4⟩, h⟩ := r.on1 h
  exact ⟨v, _, rfl, hr.dp I r h1, good_show k _ h3, Nat.le_trans (good_depth k _ h3) h2, Nat.le_trans (Nat.le_trans (good_nz k _ h3) h4) (by decide), c.at I (.str _) h⟩⟩
theorem r_rsv {x : PV} {P : PV → Prop} (h : rpOk x) (k : P x) : rsvTo x S P := ⟨x, .refl x, h, k⟩
end
/-! what may be compared, however great its numbers -/
structure Lay (k : Nat) (p : PV) : Prop where
  own : nown p = true
  lay : (dat p).canLay0 = true
  dep : (dat p).depth ≤ k
theorem Lay.ok {k : Nat} {p : PV} (h : Lay k p) (hk : k ≤ 64) : eqOk p := ⟨h.own, by
  unfold SeqAt.shaped
  rw [h.lay, decide_eq_true (Nat.le_trans h.dep hk)]
  rfl⟩
theorem Lay.int {k : Nat} {i : Int} : Lay k (.int i) := ⟨rfl, by simp only [dat, PyData.canLay0], by simp only [dat, PyData.depth]; omega⟩
theorem Lay.non {k : Nat} : Lay k .non := ⟨rfl, by simp only [dat, PyData.canLay0], by simp only [dat, PyData.depth]; omega⟩
theorem Lay.bl {k : Nat} {b : Bool} : Lay k (.bl b) := ⟨rfl, by simp only [dat, PyData.canLay0], by simp only [dat, PyData.depth]; omega⟩
theorem Lay.all {k : Nat} : ∀ {xs : List PV}, (∀ x ∈ xs, Lay k x) → nowns xs = true ∧ PyData.canLayAll0 (dats xs) = true ∧ PyData.depthAll (dats xs) ≤ k
  | [], _ => ⟨rfl, by simp only [dats, PyData.canLayAll0], by simp only [dats, PyData.depthAll]; omega⟩
  | x :: xs, h => by
    obtain ⟨h1, h2, h3⟩ := Lay.all (xs := xs) fun y hy => h y (List.mem_cons_of_mem _ hy)
    have hx := h x List.mem_cons_self
    refine ⟨by rw [nowns, hx.own, h1]; rfl, by simp only [dats, PyData.canLayAll0, hx.lay, h2, Bool.and_self], ?_⟩
    have := hx.dep
    simp only [dats, PyData.depthAll]
    omega
theorem Lay.tup {k : Nat} {xs : List PV} (h : ∀ x ∈ xs, Lay k x) : Lay (k + 1) (.tup xs) := by
  obtain ⟨h1, h2, h3⟩ := Lay.all h
  exact ⟨by rw [nown, h1], by simp only [dat, PyData.canLay0, h2], by simp only [dat, PyData.depth]; omega⟩
theorem Lay.lst {k : Nat} {xs : List PV} (h : ∀ x ∈ xs, Lay k x) : Lay (k + 1) (.lst xs) := by
  obtain ⟨h1, h2, h3⟩ := Lay.all h
  exact ⟨by rw [nown, h1], by simp only [dat, PyData.canLay0, h2], by simp only [dat, PyData.depth]; omega⟩
theorem Lay.ints {k : Nat} {ns : List Int} : ∀ x ∈ ns.map PV.int, Lay k x := fun x hx => by
  obtain ⟨n, _, rfl⟩ := List.mem_map.mp hx
  exact .int
/-- the first of what equals, where one does -/
theorem first_ex {y : PV} : ∀ {xs : List PV}, (∃ z ∈ xs, PyData.eqv (dat z) (dat y) = true) → ∃ j, FirstAt xs y j ∧ j < xs.length
  | [], h => by obtain ⟨z, hz, _⟩ := h; cases hz
  | x :: xs, h => by
    by_cases hx : PyData.eqv (dat x) (dat y) = true
    · exact ⟨0, ⟨⟨x, rfl, hx⟩, fun m z hm => absurd hm (Nat.not_lt_zero m)⟩, Nat.zero_lt_succ _⟩
    · obtain ⟨z, hz, he⟩ := h
      have hz : z ∈ xs := by
        rcases List.mem_cons.mp hz with rfl | hz
        · exact absurd he hx
        · exact hz
      obtain ⟨j, ⟨⟨w, hw, hw2⟩, hno⟩, hj⟩ := first_ex ⟨z, hz, he⟩
      refine ⟨j + 1, ⟨⟨w, hw, hw2⟩, fun m z hm e => ?_⟩, by rw [List.length_cons]; omega⟩
      cases m with
      | zero => cases e; simpa using hx
      | succ m => exact hno m z (by omega) e
/-! ### what laws have in common -/
abbrev iL (ns : List Int) : List PV := ns.map PV.int
theorem iL_snoc (a : List Int) (x : Int) : iL a ++ [.int x] = iL (a ++ [x]) := by simp
theorem zipW_get {f : Int → Int → Int} {xs ys : List Int} {i : Nat} {x y : Int} (h1 : xs[i]? = some x) (h2 : ys[i]? = some y) : (xs.zipWith f ys)[i]? = some (f x y) := by
  rw [List.getElem?_zipWith, h1, h2]
theorem take_one {xs : List Int} {i : Nat} {x : Int} (h : xs[i]? = some x) : xs.take (i + 1) = xs.take i ++ [x] := by
  rw [List.take_succ, h]
  rfl
theorem sget_new (S : Sto) (xs : List PV) : sget (S ++ [.lst xs]) S.length = some xs := by
  induction S with
  | nil => rfl
  | cons o S ih => cases o; exact ih
theorem sput_new (S : Sto) (xs ys : List PV) : sput (S ++ [.lst xs]) S.length ys = S ++ [.lst ys] := by
  rw [sput_eq]
  simp
theorem at_zero {α : Type} (x : α) (xs : List α) : atI (x :: xs) 0 = some x := by
  unfold atI ixN
  rw [if_pos (Int.le_refl 0), if_pos (by rw [List.length_cons]; omega)]
  rfl
theorem at_zeroI (t : Int) (L : List Int) : atI (iL (t :: L)) 0 = some (.int t) := by
  show atI (PV.int t :: iL L) 0 = _
  exact at_zero _ _
structure Dk where
  cells : List Int
  m : Int
  k : Int
def Dk.Ok (n : Int) (D : Dk) : Prop := 0 ≤ D.m ∧ D.m < 4294967296 ∧ 0 ≤ D.k ∧ D.k ≤ n ∧ D.cells.length ≤ 64
theorem Dk.Ok.up {n n' : Int} {D : Dk} (h : D.Ok n) (l : n ≤ n') : D.Ok n' := by unfold Dk.Ok at h ⊢; omega
@[reducible] def dk3 (cells : List Int) (m k : Int) (G : Sto) : Sto := .lst (iL cells) :: .lst [.own 0, .int m, .int k] :: G
@[reducible] def dk (D : Dk) (G : Sto) : Sto := dk3 D.cells D.m D.k G
def asp_deck : AL := fun vs S P => ∃ ns : List Int, vs = [.scr ns] ∧ S = [] ∧ ns.length ≤ 63 ∧ ∀ D : Dk, D.Ok 0 → P (.own 1) (dk D [])
def asp_draw : AL := fun vs S P => ∃ (D : Dk) (G : Sto) (n m : Int), vs = [.own 1, .int m] ∧ S = dk D G ∧ D.Ok n ∧ n ≤ 1000000000 ∧ 1 ≤ m ∧ m ≤ 1000000000 ∧ ∀ r D', 0 ≤ r → r < m → D'.Ok (n + 1) → P (.int r) (dk D' G)
def asp_pick : AL := fun vs S P => ∃ (D : Dk) (G : Sto) (n : Int) (s : PV) (xs : List PV), vs = [.own 1, s] ∧ S = dk D G ∧ D.Ok n ∧ n ≤ 1000000000 ∧ 0 < xs.length ∧ xs.length ≤ 1000 ∧ (∀ D', sq s (dk D' G) = some xs) ∧ ∀ v D', v ∈ xs → D'.Ok (n + 1) → P v (dk D' G)
def asp_order : AL := fun vs S P => ∃ (D : Dk) (G : Sto) (n st most : Int), vs = [.own 1, .int st, .int most] ∧ S = dk D G ∧ D.Ok n ∧ n ≤ 900000000 ∧ 1 ≤ st ∧ st ≤ 100 ∧ 0 ≤ most ∧ most ≤ 100 ∧
  ∀ (order : List Int) D', D'.Ok (n + 200) → (∀ x ∈ order, 0 ≤ x ∧ x < st) → order.length ≤ most → P (.tup (iL order)) (dk D' G)
theorem last_of {α : Type} : ∀ {l : List α}, l ≠ [] → ∃ (init : List α) (z : α), l = init ++ [z]
  | [], h => absurd rfl h
  | [z], _ => ⟨[], z, rfl⟩
  | x :: y :: l, _ => by
    obtain ⟨init, z, e⟩ := last_of (l := y :: l) (by simp)
    exact ⟨x :: init, z, by rw [e]; rfl⟩
theorem cut_iL (ns : List Int) (lo hi : Option Int) : ∃ ms : List Int, cutP (iL ns) lo hi = iL ms ∧ ms.length ≤ ns.length := by
  refine ⟨(ns.drop (HT.sIx (iL ns).length 0 lo)).take (HT.sIx (iL ns).length (iL ns).length hi - HT.sIx (iL ns).length 0 lo), ?_, ?_⟩
  · unfold cutP iL
    rw [List.map_take, List.map_drop]
  · rw [List.length_take, List.length_drop]
    omega
theorem flat_one (n : Nat) (x : Int) : (List.replicate n [PV.int x]).flatten = iL (List.replicate n x) := by
  induction n with
  | zero => rfl
  | succ n ih => rw [List.replicate_succ, List.flatten_cons, ih, List.replicate_succ]; rfl
theorem sget_dk (D : Dk) (G : Sto) (xs : List PV) : sget (dk D (G ++ [.lst xs])) (G.length + 2) = some xs := sget_new G xs
theorem sput_dk (D : Dk) (G : Sto) (xs ys : List PV) : sput (dk D (G ++ [.lst xs])) (G.length + 2) ys = dk D (G ++ [.lst ys]) := by
  show AO.lst _ :: AO.lst _ :: sput (G ++ [.lst xs]) G.length ys = _
  rw [sput_new]
structure Rp (k z : Nat) (p : PV) : Prop where
  own : nown p = true
  gd : good k (dat p)
  nz : nz (dat p) ≤ z
theorem Rp.ok {k z : Nat} {p : PV} (h : Rp k z p) (hk : k ≤ 60) (hz : z ≤ 16000000) : rpOk p := ⟨⟨h.own, k, hk, h.gd⟩, Nat.le_trans h.nz hz⟩
theorem Rp.up {k z z' : Nat} {p : PV} (h : Rp k z p) (hz : z ≤ z') : Rp k z' p := ⟨h.own, h.gd, Nat.le_trans h.nz hz⟩
theorem Rp.int {k z : Nat} {i : Int} (h1 : -1000000000000000000000000 < i) (h2 : i < 1000000000000000000000000) (hz : 1921 ≤ z) : Rp k z (.int i) := ⟨rfl, good_int h1 h2, hz⟩
theorem Rp.non {k z : Nat} (hz : 4 ≤ z) : Rp k z .non := ⟨rfl, by cases k <;> trivial, hz⟩
theorem Rp.all {k z : Nat} : ∀ {xs : List PV}, (∀ x ∈ xs, Rp k z x) → nowns xs = true ∧ (∀ x ∈ dats xs, good k x) ∧ nzAll (dats xs) ≤ xs.length * (z + 2)
  | [], _ => ⟨rfl, (fun x h => by cases h), Nat.zero_le _⟩
  | x :: xs, h => by
    obtain ⟨h1, h2, h3⟩ := Rp.all (xs := xs) fun y hy => h y (List.mem_cons_of_mem _ hy)
    have hx := h x List.mem_cons_self
    refine ⟨by rw [nowns, hx.own, h1]; rfl, fun y hy => ?_, ?_⟩
    · rw [dats] at hy
      rcases List.mem_cons.mp hy with rfl | hy
      · exact hx.gd
      · exact h2 y hy
    · have e : (x :: xs).length * (z + 2) = xs.length * (z + 2) + (z + 2) := by rw [List.length_cons, Nat.succ_mul]
      have := hx.nz
      rw [dats, nzAll]
      omega
theorem Rp.tup {k z n : Nat} {xs : List PV} (h : ∀ x ∈ xs, Rp k z x) (hn : xs.length ≤ n) : Rp (k + 1) (3 + n * (z + 2)) (.tup xs) := by
  obtain ⟨h1, h2, h3⟩ := Rp.all h
  refine ⟨by rw [nown, h1], h2, ?_⟩
  have := Nat.mul_le_mul_right (z + 2) hn
  rw [dat, L3.nz]
  omega
theorem Rp.lst {k z n : Nat} {xs : List PV} (h : ∀ x ∈ xs, Rp k z x) (hn : xs.length ≤ n) : Rp (k + 1) (3 + n * (z + 2)) (.lst xs) := by
  obtain ⟨h1, h2, h3⟩ := Rp.all h
  refine ⟨by rw [nown, h1], h2, ?_⟩
  have := Nat.mul_le_mul_right (z + 2) hn
  rw [dat, L3.nz]
  omega
theorem Rp.nil {k z : Nat} : ∀ x ∈ ([] : List PV), Rp k z x := fun x h => by cases h
theorem Rp.cons {k z : Nat} {p : PV} {xs : List PV} (h : Rp k z p) (hs : ∀ x ∈ xs, Rp k z x) : ∀ x ∈ p :: xs, Rp k z x := fun x hx => by
  rcases List.mem_cons.mp hx with rfl | hx
  · exact h
  · exact hs x hx
theorem Rp.ofI {k z : Nat} {ns : List Int} (h : ∀ n ∈ ns, -1000000000000000000000000 < n ∧ n < 1000000000000000000000000) (hz : 1921 ≤ z) : ∀ x ∈ iL ns, Rp k z x := fun x hx => by
  obtain ⟨n, hn, rfl⟩ := List.mem_map.mp hx
  exact Rp.int (h n hn).1 (h n hn).2 hz
theorem cut_take (xs : List PV) {a : Int} (h0 : 0 ≤ a) : cutP xs none (some a) = xs.take a.toNat := by
  have e : a = ((a.toNat : Nat) : Int) := by omega
  unfold cutP
  rw [HT.sIx_none, Nat.sub_zero, List.drop_zero]
  conv => lhs; rw [e, HT.sIx_nat]
  rw [List.take_eq_take_iff]
  simp
theorem flat_ref (n : Nat) (x : PV) : (List.replicate n [x]).flatten = List.replicate n x := by
  induction n with
  | zero => rfl
  | succ n ih => rw [List.replicate_succ, List.flatten_cons, ih, List.replicate_succ]; rfl
theorem cut_init (xs : List PV) : cutP xs none (some (-1)) = xs.dropLast := by
  unfold cutP
  rw [HT.sIx_none, Nat.sub_zero, List.drop_zero, List.dropLast_eq_take]
  congr 1
  show (if (-1 : Int) < 0 then ((-1 : Int) + (xs.length : Int)).toNat else min (-1 : Int).toNat xs.length) = _
  rw [if_pos (by decide)]
  omega
theorem cut_from (xs : List PV) {a : Int} (h0 : 0 ≤ a) : cutP xs (some a) none = xs.drop a.toNat := by
  have e : a = ((a.toNat : Nat) : Int) := by omega
  unfold cutP
  rw [HT.sIx_none]
  conv => lhs; rw [e, HT.sIx_nat]
  by_cases h : a.toNat ≤ xs.length
  · rw [Nat.min_eq_left h, List.take_of_length_le (by rw [List.length_drop]; omega)]
  · rw [Nat.min_eq_right (by omega), Nat.sub_self, List.take_zero, List.drop_eq_nil_of_le (by omega)]
theorem take_oneG {α : Type} {xs : List α} {i : Nat} {x : α} (h : xs[i]? = some x) : xs.take (i + 1) = xs.take i ++ [x] := by
  rw [List.take_succ, h]
  rfl
theorem at_last {α : Type} (xs : List α) (x : α) : atI (xs ++ [x]) (-1) = some x := by
  unfold atI ixN
  rw [if_neg (by decide), if_pos (by rw [List.length_append, List.length_singleton]; omega)]
  show (xs ++ [x])[(-1 + ((xs ++ [x]).length : Int)).toNat]? = some x
  rw [show (-1 + ((xs ++ [x]).length : Int)).toNat = xs.length by rw [List.length_append, List.length_singleton]; omega]
  simp
/-- = of lists of ints -/
theorem eqv_ints : ∀ (ns ms : List Int), PyData.eqvAll (ns.map .int) (ms.map .int) = decide (ns = ms)
  | [], [] => by simp [PyData.eqvAll]
  | [], m :: ms => by simp [PyData.eqvAll]
  | n :: ns, [] => by simp [PyData.eqvAll]
  | n :: ns, m :: ms => by
    simp only [List.map_cons, PyData.eqvAll, PyData.eqv, eqv_ints ns ms]
    by_cases h1 : n = m <;> by_cases h2 : ns = ms <;> simp [h1, h2]
theorem eqv_iT (ns ms : List Int) : PyData.eqv (dat (.tup (iL ns))) (dat (.tup (iL ms))) = decide (ns = ms) := by
  rw [dat, dat, dats_ints, dats_ints, PyData.eqv, eqv_ints]
end L4

namespace K11
open PySem PySem.Spec PyProof.Rows L2 L3 L4
def top (i : Nat) : Stmt := PySem.Challenge.pw_lyingwire_k11_announced_symbols.main.body.getD i (.Pass ⟨0, 0, 0, 0⟩)
abbrev st_power_of : Stmt := top 1
abbrev st_next_turn : Stmt := top 2
abbrev st_previous_turn : Stmt := top 3
abbrev st_gap_of : Stmt := top 4
abbrev st_base_of : Stmt := top 5
abbrev st_width : Stmt := top 6
abbrev st_digits_of : Stmt := top 7
abbrev st_number_of : Stmt := top 8
abbrev st_node_of : Stmt := top 9
abbrev st_denoted : Stmt := top 10
abbrev st_announced : Stmt := top 11
abbrev st__law_deck : Stmt := top 13
abbrev st__law_draw : Stmt := top 14
abbrev st__law_pick : Stmt := top 15
abbrev st__law_order : Stmt := top 16
abbrev st__law_power : Stmt := top 17
abbrev st__law_base : Stmt := top 18
abbrev st__law_node : Stmt := top 19
abbrev st__law_nodes : Stmt := top 20
abbrev st__law_announced : Stmt := top 21
abbrev st__law_noise : Stmt := top 22
abbrev st__law_path_right : Stmt := top 23
abbrev st_law : Stmt := top 24
theorem sc_power_of : FnScope ["size", "count", "found", "step"] ["size", "count"] (defScope st_power_of) := ⟨rfl, rfl, rfl, by decide +kernel, rfl, by decide +kernel, by decide +kernel⟩
theorem sc_next_turn : FnScope ["talk", "station", "turn", "number", "speaker"] ["talk", "station", "turn"] (defScope st_next_turn) := ⟨rfl, rfl, rfl, by decide +kernel, rfl, by decide +kernel, by decide +kernel⟩
theorem sc_previous_turn : FnScope ["talk", "station", "turn", "found", "number", "speaker"] ["talk", "station", "turn"] (defScope st_previous_turn) := ⟨rfl, rfl, rfl, by decide +kernel, rfl, by decide +kernel, by decide +kernel⟩
theorem sc_gap_of : FnScope ["talk", "station", "largest", "last", "number", "speaker"] ["talk", "station"] (defScope st_gap_of) := ⟨rfl, rfl, rfl, by decide +kernel, rfl, by decide +kernel, by decide +kernel⟩
theorem sc_base_of : FnScope ["talk", "station"] ["talk", "station"] (defScope st_base_of) := ⟨rfl, rfl, rfl, by decide +kernel, rfl, by decide +kernel, by decide +kernel⟩
theorem sc_width : FnScope ["talk", "station", "rounds", "turns"] ["talk", "station", "rounds"] (defScope st_width) := ⟨rfl, rfl, rfl, by decide +kernel, rfl, by decide +kernel, by decide +kernel⟩
theorem sc_digits_of : FnScope ["number", "size", "count", "found", "left", "place"] ["number", "size", "count"] (defScope st_digits_of) := ⟨rfl, rfl, rfl, by decide +kernel, rfl, by decide +kernel, by decide +kernel⟩
theorem sc_number_of : FnScope ["letters", "size", "found", "letter"] ["letters", "size"] (defScope st_number_of) := ⟨rfl, rfl, rfl, by decide +kernel, rfl, by decide +kernel, by decide +kernel⟩
theorem sc_node_of : FnScope ["talk", "station", "symbol", "nodes", "pointer", "number", "start", "turn", "letters"] ["talk", "station", "symbol", "nodes"] (defScope st_node_of) := ⟨rfl, rfl, rfl, by decide +kernel, rfl, by decide +kernel, by decide +kernel⟩
theorem sc_denoted : FnScope ["talk", "station", "symbols", "nodes", "symbol"] ["talk", "station", "symbols"] (defScope st_denoted) := ⟨rfl, rfl, rfl, by decide +kernel, rfl, by decide +kernel, by decide +kernel⟩
theorem sc_announced : FnScope ["talk", "station", "symbols", "node", "turn", "start", "pointer"] ["talk", "station", "symbols", "node"] (defScope st_announced) := ⟨rfl, rfl, rfl, by decide +kernel, rfl, by decide +kernel, by decide +kernel⟩
theorem sc__law_deck : FnScope ["_law_script", "_law_cells", "_law_mixed", "_law_cell"] ["_law_script"] (defScope st__law_deck) := ⟨rfl, rfl, rfl, by decide +kernel, rfl, by decide +kernel, by decide +kernel⟩
theorem sc__law_draw : FnScope ["_law_deck_here", "_law_many", "_law_cell", "_law_number"] ["_law_deck_here", "_law_many"] (defScope st__law_draw) := ⟨rfl, rfl, rfl, by decide +kernel, rfl, by decide +kernel, by decide +kernel⟩
theorem sc__law_pick : FnScope ["_law_deck_here", "_law_some"] ["_law_deck_here", "_law_some"] (defScope st__law_pick) := ⟨rfl, rfl, rfl, by decide +kernel, rfl, by decide +kernel, by decide +kernel⟩
theorem sc__law_order : FnScope ["_law_deck_here", "_law_stations", "_law_most", "_law_way", "_law_many", "_law_first", "_law_k"] ["_law_deck_here", "_law_stations", "_law_most"] (defScope st__law_order) := ⟨rfl, rfl, rfl, by decide +kernel, rfl, by decide +kernel, by decide +kernel⟩
theorem sc__law_power : FnScope ["_law_size", "_law_many", "_law_found", "_law_k"] ["_law_size", "_law_many"] (defScope st__law_power) := ⟨rfl, rfl, rfl, by decide +kernel, rfl, by decide +kernel, by decide +kernel⟩
theorem sc__law_base : FnScope ["_law_size", "_law_order_here", "_law_who", "_law_ends", "_law_k", "_law_speaker", "_law_start", "_law_end"] ["_law_size", "_law_order_here", "_law_who"] (defScope st__law_base) := ⟨rfl, rfl, rfl, by decide +kernel, rfl, by decide +kernel, by decide +kernel⟩
theorem sc__law_node : FnScope ["_law_size", "_law_order_here", "_law_who", "_law_symbol", "_law_before", "_law_base_here", "_law_point", "_law_rest", "_law_start", "_law_k", "_law_later", "_law_letters", "_law_place"] ["_law_size", "_law_order_here", "_law_who", "_law_symbol", "_law_before"] (defScope st__law_node) := ⟨rfl, rfl, rfl, by decide +kernel, rfl, by decide +kernel, by decide +kernel⟩
theorem sc__law_nodes : FnScope ["_law_size", "_law_order_here", "_law_who", "_law_marks", "_law_found", "_law_symbol"] ["_law_size", "_law_order_here", "_law_who", "_law_marks"] (defScope st__law_nodes) := ⟨rfl, rfl, rfl, by decide +kernel, rfl, by decide +kernel, by decide +kernel⟩
theorem sc__law_announced : FnScope ["_law_size", "_law_order_here", "_law_who", "_law_nodes_here", "_law_goal", "_law_turns", "_law_start", "_law_number", "_law_letter", "_law_point", "_law_k"] ["_law_size", "_law_order_here", "_law_who", "_law_nodes_here", "_law_goal"] (defScope st__law_announced) := ⟨rfl, rfl, rfl, by decide +kernel, rfl, by decide +kernel, by decide +kernel⟩
theorem sc__law_noise : FnScope ["_law_deck_here", "_law_size", "_law_order_here", "_law_who", "_law_marks", "_law_base_here", "_law_k", "_law_way", "_law_here", "_law_point"] ["_law_deck_here", "_law_size", "_law_order_here", "_law_who", "_law_marks"] (defScope st__law_noise) := ⟨rfl, rfl, rfl, by decide +kernel, rfl, by decide +kernel, by decide +kernel⟩
theorem sc__law_path_right : FnScope ["_law_deck_here", "_law_plan", "_law_other", "_law_who", "_law_size", "_law_order_here", "_law_turn", "_law_path", "_law_marks", "_law_goal", "_law_before", "_law_due", "_law_row", "_law_kept", "_law_told", "_law_k"] ["_law_deck_here", "_law_plan", "_law_other", "_law_who"] (defScope st__law_path_right) := ⟨rfl, rfl, rfl, by decide +kernel, rfl, by decide +kernel, by decide +kernel⟩
theorem sc_law : FnScope ["_law_script", "_law_deck_here", "_law_turn", "_law_size", "_law_stations", "_law_order_here", "_law_plan", "_law_other", "_law_who"] ["_law_script"] (defScope st_law) := ⟨rfl, rfl, rfl, by decide +kernel, rfl, by decide +kernel, by decide +kernel⟩
/-- the built-in names that the text does not store -/
structure Txt (mg : Str → Option Value) : Prop where
  b_divmod : mg "divmod" = none
  b_enumerate : mg "enumerate" = none
  b_int : mg "int" = none
  b_len : mg "len" = none
  b_list : mg "list" = none
  b_max : mg "max" = none
  b_range : mg "range" = none
  b_repr : mg "repr" = none
  b_tuple : mg "tuple" = none
  b_zip : mg "zip" = none
section
variable {P : Program} {w : World} {K : PySem.W.Frag} {mg : Str → Option Value} {base : Heap}
noncomputable def dv_power_of (T : Txt mg) {f : Addr} {cdv : Value} {A : Around} {outer : List Env} {s : Shared} {H : Hp} {E : XK} (hgd : (A.deeper (envOfC "power_of" (defScope st_power_of) s.heap.objs.size f cdv)).guards = some []) (hr : Room 0 (A.deeper (envOfC "power_of" (defScope st_power_of) s.heap.objs.size f cdv))) :
    {t : TS // PSs (cxOf CX0 P w K mg base ["size", "count", "found", "step"] "power_of" (defScope st_power_of) f cdv A outer s H E).nox (defBody st_power_of) t} := ⟨_, (pss_cons (ps_set (i := 2) sc_power_of.nd rfl (Or.inl rfl) pe_int)
    (pss_cons (ps_for PassesOwn.never rfl (pi_range1 (by rfl) T.b_range (pa_cons (pv 1) pa_nil)) (pg_name (i := 3) sc_power_of.nd rfl (Or.inl rfl)) (pss_one (ps_aug (i := 2) sc_power_of.nd rfl (Or.inl rfl) (pv 0) ipMul)))
    (pss_one (ps_ret (pv 2)))))⟩
noncomputable def dv_next_turn (T : Txt mg) {f : Addr} {cdv : Value} {A : Around} {outer : List Env} {s : Shared} {H : Hp} {E : XK} (hgd : (A.deeper (envOfC "next_turn" (defScope st_next_turn) s.heap.objs.size f cdv)).guards = some []) (hr : Room 0 (A.deeper (envOfC "next_turn" (defScope st_next_turn) s.heap.objs.size f cdv))) :
    {t : TS // PSs (cxOf CX0 P w K mg base ["talk", "station", "turn", "number", "speaker"] "next_turn" (defScope st_next_turn) f cdv A outer s H E).nox (defBody st_next_turn) t} := ⟨_, (pss_cons (ps_for PassesOwn.never rfl (pi_enumK (K := K) (by rfl) T.b_enumerate (pa_cons (pe_ix (kIx (K := K)) (pv 0) pe_int (fun _ _ => rfl)) pa_nil)) (pg_tupK (K := K) (n := 2) rfl (pgs_cons (pg_name (i := 3) sc_next_turn.nd rfl (Or.inl rfl)) (pgs_cons (pg_name (i := 4) sc_next_turn.nd rfl (Or.inl rfl)) pgs_nil))) (pss_one (ps_if (PW.pt (pw_and (pt_cmpR oGe (pv 3) (pv 2) (by first | exact nomark _ | rfl)) (pw_and1 (pt_cmpR (kEq (K := K) hr) (pv 4) (pv 1) (by first | exact nomark _ | rfl))))) (pss_one (ps_ret (pv 3))) pss_nil)))
    (pss_one (ps_ret pe_non)))⟩
noncomputable def dv_previous_turn (T : Txt mg) {f : Addr} {cdv : Value} {A : Around} {outer : List Env} {s : Shared} {H : Hp} {E : XK} (hgd : (A.deeper (envOfC "previous_turn" (defScope st_previous_turn) s.heap.objs.size f cdv)).guards = some []) (hr : Room 0 (A.deeper (envOfC "previous_turn" (defScope st_previous_turn) s.heap.objs.size f cdv))) :
    {t : TS // PSs (cxOf CX0 P w K mg base ["talk", "station", "turn", "found", "number", "speaker"] "previous_turn" (defScope st_previous_turn) f cdv A outer s H E).nox (defBody st_previous_turn) t} := ⟨_, (pss_cons (ps_set (i := 3) sc_previous_turn.nd rfl (Or.inl rfl) pe_non)
    (pss_cons (ps_for PassesOwn.never rfl (pi_enumK (K := K) (by rfl) T.b_enumerate (pa_cons (pe_slice (kSlG (K := K)) (pe_ix (kIx (K := K)) (pv 0) pe_int (fun _ _ => rfl)) po_none (po_some (pv 2))) pa_nil)) (pg_tupK (K := K) (n := 2) rfl (pgs_cons (pg_name (i := 4) sc_previous_turn.nd rfl (Or.inl rfl)) (pgs_cons (pg_name (i := 5) sc_previous_turn.nd rfl (Or.inl rfl)) pgs_nil))) (pss_one (ps_if (pt_cmpR (kEq (K := K) hr) (pv 5) (pv 1) (by first | exact nomark _ | rfl)) (pss_one (ps_set (i := 3) sc_previous_turn.nd rfl (Or.inl rfl) (pv 4))) pss_nil)))
    (pss_one (ps_ret (pv 3)))))⟩
noncomputable def dv_gap_of (T : Txt mg) {f : Addr} {cdv : Value} {A : Around} {outer : List Env} {s : Shared} {H : Hp} {E : XK} (hgd : (A.deeper (envOfC "gap_of" (defScope st_gap_of) s.heap.objs.size f cdv)).guards = some []) (hr : Room 0 (A.deeper (envOfC "gap_of" (defScope st_gap_of) s.heap.objs.size f cdv))) :
    {t : TS // PSs (cxOf CX0 P w K mg base ["talk", "station", "largest", "last", "number", "speaker"] "gap_of" (defScope st_gap_of) f cdv A outer s H E).nox (defBody st_gap_of) t} := ⟨_, (pss_cons (ps_asg (pe_tupF (pa_cons pe_int (pa_cons (pe_un un_neg pe_int) pa_nil))) (pg_tupK (K := K) (n := 2) rfl (pgs_cons (pg_name (i := 2) sc_gap_of.nd rfl (Or.inl rfl)) (pgs_cons (pg_name (i := 3) sc_gap_of.nd rfl (Or.inl rfl)) pgs_nil))))
    (pss_cons (ps_for PassesOwn.never rfl (pi_enumK (K := K) (by rfl) T.b_enumerate (pa_cons (pe_ix (kIx (K := K)) (pv 0) pe_int (fun _ _ => rfl)) pa_nil)) (pg_tupK (K := K) (n := 2) rfl (pgs_cons (pg_name (i := 4) sc_gap_of.nd rfl (Or.inl rfl)) (pgs_cons (pg_name (i := 5) sc_gap_of.nd rfl (Or.inl rfl)) pgs_nil))) (pss_one (ps_if (pt_cmpR (kEq (K := K) hr) (pv 5) (pv 1) (by first | exact nomark _ | rfl)) (pss_cons (ps_set (i := 2) sc_gap_of.nd rfl (Or.inl rfl) (pe_callB (kMax (K := K) rfl) (by rfl) T.b_max (by decide +kernel) (pa_cons (pv 2) (pa_cons (pe_op oSub (pv 4) (pv 3)) pa_nil))))
    (pss_one (ps_set (i := 3) sc_gap_of.nd rfl (Or.inl rfl) (pv 4)))) pss_nil)))
    (pss_one (ps_ret (pv 2)))))⟩
noncomputable def dv_base_of (T : Txt mg) {sp_gap_of : Sp} {sp_power_of : Sp} (cg_gap_of : Cg P w K mg base CX0 1 "gap_of" sp_gap_of) (cg_power_of : Cg P w K mg base CX0 1 "power_of" sp_power_of) {f : Addr} {cdv : Value} {A : Around} {outer : List Env} {s : Shared} {H : Hp} {E : XK} (hgd : (A.deeper (envOfC "base_of" (defScope st_base_of) s.heap.objs.size f cdv)).guards = some []) (hr : Room 1 (A.deeper (envOfC "base_of" (defScope st_base_of) s.heap.objs.size f cdv))) :
    {t : TS // PSs (cxOf CX0 P w K mg base ["talk", "station"] "base_of" (defScope st_base_of) f cdv A outer s H E).nox (defBody st_base_of) t} := ⟨_, (pss_one (ps_ret (pe_cg cg_power_of hgd hr (by decide) (by rfl) pass0 (pa_cons (pe_ix (kIx (K := K)) (pv 0) pe_int (fun _ _ => rfl)) (pa_cons (pe_cg cg_gap_of hgd hr (by decide) (by rfl) pass0 (pa_cons (pv 0) (pa_cons (pv 1) pa_nil))) pa_nil)))))⟩
noncomputable def dv_width (T : Txt mg) {sp_base_of : Sp} (cg_base_of : Cg P w K mg base CX0 2 "base_of" sp_base_of) {f : Addr} {cdv : Value} {A : Around} {outer : List Env} {s : Shared} {H : Hp} {E : XK} (hgd : (A.deeper (envOfC "width" (defScope st_width) s.heap.objs.size f cdv)).guards = some []) (hr : Room 2 (A.deeper (envOfC "width" (defScope st_width) s.heap.objs.size f cdv))) :
    {t : TS // PSs (cxOf CX0 P w K mg base ["talk", "station", "rounds", "turns"] "width" (defScope st_width) f cdv A outer s H E).nox (defBody st_width) t} := ⟨_, (pss_cons (ps_set (i := 3) sc_width.nd rfl (Or.inl rfl) (pe_bmT PySem.F.plainAttrs_tuple PySem.F.slot_tuple_count PySem.F.type_tuple_count (kTcount (K := K)) (pe_ix (kIx (K := K)) (pv 0) pe_int (fun _ _ => rfl)) (pa_cons (pv 1) pa_nil)))
    (pss_cons (ps_if (pt_cmpR (kEq (K := K) hr) (pv 3) pe_int (by first | exact nomark _ | rfl)) (pss_one (ps_ret pe_int)) pss_nil)
    (pss_one (ps_ret (pe_op (kAddF (K := K)) pe_int (pe_op (kMulG (K := K)) (pe_cg cg_base_of hgd hr (by decide) (by rfl) pass0 (pa_cons (pv 0) (pa_cons (pv 1) pa_nil))) (pe_join (pe_ifExp (pt_cmpR (kEq (K := K) hr) (pv 3) pe_int (by first | exact nomark _ | rfl)) pe_int (pv 2)))))))))⟩
noncomputable def dv_digits_of (T : Txt mg) {f : Addr} {cdv : Value} {A : Around} {outer : List Env} {s : Shared} {H : Hp} {E : XK} (hgd : (A.deeper (envOfC "digits_of" (defScope st_digits_of) s.heap.objs.size f cdv)).guards = some []) (hr : Room 0 (A.deeper (envOfC "digits_of" (defScope st_digits_of) s.heap.objs.size f cdv))) :
    {t : TS // PSs (cxOf CX0 P w K mg base ["number", "size", "count", "found", "left", "place"] "digits_of" (defScope st_digits_of) f cdv A outer s H E).nox (defBody st_digits_of) t} := ⟨_, (pss_cons (ps_par (i := 3) (j := 4) rfl sc_digits_of.nd rfl rfl (by decide) rfl rfl (pa_cons (pe_tupF pa_nil) (pa_cons (pv 0) pa_nil)) (by rfl))
    (pss_cons (ps_for PassesOwn.never rfl (pi_range1 (by rfl) T.b_range (pa_cons (pv 2) pa_nil)) (pg_name (i := 5) sc_digits_of.nd rfl (Or.inl rfl)) (pss_cons (ps_set (i := 3) sc_digits_of.nd rfl (Or.inl rfl) (pe_tupF (pa_cons (pe_op oMod (pv 4) (pv 1)) (pa_starK (K := K) (pv 3) pa_nil))))
    (pss_one (ps_aug (i := 4) sc_digits_of.nd rfl (Or.inl rfl) (pv 1) ipFdiv))))
    (pss_one (ps_ret (pe_ifExp (pt_cmpR (kEq (K := K) hr) (pv 4) pe_int (by first | exact nomark _ | rfl)) (pv 3) pe_non)))))⟩
noncomputable def dv_number_of (T : Txt mg) {f : Addr} {cdv : Value} {A : Around} {outer : List Env} {s : Shared} {H : Hp} {E : XK} (hgd : (A.deeper (envOfC "number_of" (defScope st_number_of) s.heap.objs.size f cdv)).guards = some []) (hr : Room 0 (A.deeper (envOfC "number_of" (defScope st_number_of) s.heap.objs.size f cdv))) :
    {t : TS // PSs (cxOf CX0 P w K mg base ["letters", "size", "found", "letter"] "number_of" (defScope st_number_of) f cdv A outer s H E).nox (defBody st_number_of) t} := ⟨_, (pss_cons (ps_set (i := 2) sc_number_of.nd rfl (Or.inl rfl) pe_int)
    (pss_cons (ps_for PassesOwn.never rfl (pi_seqK (K := K) (pv 0)) (pg_name (i := 3) sc_number_of.nd rfl (Or.inl rfl)) (pss_one (ps_set (i := 2) sc_number_of.nd rfl (Or.inl rfl) (pe_op (kAddF (K := K)) (pe_op (kMulG (K := K)) (pv 2) (pv 1)) (pv 3)))))
    (pss_one (ps_ret (pv 2)))))⟩
noncomputable def dv_node_of (T : Txt mg) {sp_base_of : Sp} {sp_digits_of : Sp} {sp_next_turn : Sp} (cg_base_of : Cg P w K mg base CX0 2 "base_of" sp_base_of) (cg_digits_of : Cg P w K mg base CX0 1 "digits_of" sp_digits_of) (cg_next_turn : Cg P w K mg base CX0 1 "next_turn" sp_next_turn) {f : Addr} {cdv : Value} {A : Around} {outer : List Env} {s : Shared} {H : Hp} {E : XK} (hgd : (A.deeper (envOfC "node_of" (defScope st_node_of) s.heap.objs.size f cdv)).guards = some []) (hr : Room 2 (A.deeper (envOfC "node_of" (defScope st_node_of) s.heap.objs.size f cdv))) :
    {t : TS // PSs (cxOf CX0 P w K mg base ["talk", "station", "symbol", "nodes", "pointer", "number", "start", "turn", "letters"] "node_of" (defScope st_node_of) f cdv A outer s H E).nox (defBody st_node_of) t} := ⟨_, (pss_cons (ps_if (pt_cmpR (kEq (K := K) hr) (pv 2) pe_int (by first | exact nomark _ | rfl)) (pss_one (ps_ret pe_non)) pss_nil)
    (pss_cons (ps_asg (pe_callB kDivmodF (by rfl) T.b_divmod (by decide +kernel) (pa_cons (pe_op oSub (pv 2) pe_int) (pa_cons (pe_cg cg_base_of hgd hr (by decide) (by rfl) pass0 (pa_cons (pv 0) (pa_cons (pv 1) pa_nil))) pa_nil))) (pg_tupK (K := K) (n := 2) rfl (pgs_cons (pg_name (i := 4) sc_node_of.nd rfl (Or.inl rfl)) (pgs_cons (pg_name (i := 5) sc_node_of.nd rfl (Or.inl rfl)) pgs_nil))))
    (pss_cons (ps_if (pt_cmpR oGt (pv 4) (pe_callB (kLen (K := K)) (by rfl) T.b_len (by decide +kernel) (pa_cons (pv 3) pa_nil)) (by first | exact nomark _ | rfl)) (pss_one (ps_ret pe_non)) pss_nil)
    (pss_cons (ps_set (i := 6) sc_node_of.nd rfl (Or.inl rfl) (pe_join (pe_ifExp (pt_cmpR (kEq (K := K) hr) (pv 4) pe_int (by first | exact nomark _ | rfl)) (pe_tupF pa_nil) (pe_ix (kIx (K := K)) (pv 3) (pe_op oSub (pv 4) pe_int) (fun _ _ => rfl)))))
    (pss_cons (ps_set (i := 7) sc_node_of.nd rfl (Or.inl rfl) (pe_join (pe_ifExp (pt_cmpR oIs (pv 6) pe_non (by first | exact nomark _ | rfl)) pe_non (pe_cg cg_next_turn hgd hr (by decide) (by rfl) pass0 (pa_cons (pv 0) (pa_cons (pv 1) (pa_cons (pe_callB (kLen (K := K)) (by rfl) T.b_len (by decide +kernel) (pa_cons (pv 6) pa_nil)) pa_nil)))))))
    (pss_cons (ps_if (pt_cmpR oIs (pv 7) pe_non (by first | exact nomark _ | rfl)) (pss_one (ps_ret pe_non)) pss_nil)
    (pss_cons (ps_set (i := 8) sc_node_of.nd rfl (Or.inl rfl) (pe_cg cg_digits_of hgd hr (by decide) (by rfl) pass0 (pa_cons (pv 5) (pa_cons (pe_ix (kIx (K := K)) (pv 0) pe_int (fun _ _ => rfl)) (pa_cons (pe_op oSub (pe_op (kAddF (K := K)) (pv 7) pe_int) (pe_callB (kLen (K := K)) (by rfl) T.b_len (by decide +kernel) (pa_cons (pv 6) pa_nil))) pa_nil)))))
    (pss_one (ps_ret (pe_ifExp (pt_cmpR oIs (pv 8) pe_non (by first | exact nomark _ | rfl)) pe_non (pe_tupF (pa_starK (K := K) (pv 6) (pa_starK (K := K) (pv 8) pa_nil)))))))))))))⟩
noncomputable def dv_denoted (T : Txt mg) {sp_node_of : Sp} (cg_node_of : Cg P w K mg base CX0 3 "node_of" sp_node_of) {f : Addr} {cdv : Value} {A : Around} {outer : List Env} {s : Shared} {H : Hp} {E : XK} (hgd : (A.deeper (envOfC "denoted" (defScope st_denoted) s.heap.objs.size f cdv)).guards = some []) (hr : Room 3 (A.deeper (envOfC "denoted" (defScope st_denoted) s.heap.objs.size f cdv))) :
    {t : TS // PSs (cxOf CX0 P w K mg base ["talk", "station", "symbols", "nodes", "symbol"] "denoted" (defScope st_denoted) f cdv A outer s H E).nox (defBody st_denoted) t} := ⟨_, (pss_cons (ps_set (i := 3) sc_denoted.nd rfl (Or.inl rfl) (pe_tupF pa_nil))
    (pss_cons (ps_for PassesOwn.never rfl (pi_seqK (K := K) (pv 2)) (pg_name (i := 4) sc_denoted.nd rfl (Or.inl rfl)) (pss_one (ps_set (i := 3) sc_denoted.nd rfl (Or.inl rfl) (pe_tupF (pa_starK (K := K) (pv 3) (pa_cons (pe_cg cg_node_of hgd hr (by decide) (by rfl) pass0 (pa_cons (pv 0) (pa_cons (pv 1) (pa_cons (pv 4) (pa_cons (pv 3) pa_nil))))) pa_nil))))))
    (pss_one (ps_ret (pv 3)))))⟩
noncomputable def dv_announced (T : Txt mg) {sp_base_of : Sp} {sp_denoted : Sp} {sp_number_of : Sp} {sp_previous_turn : Sp} (cg_base_of : Cg P w K mg base CX0 2 "base_of" sp_base_of) (cg_denoted : Cg P w K mg base CX0 4 "denoted" sp_denoted) (cg_number_of : Cg P w K mg base CX0 1 "number_of" sp_number_of) (cg_previous_turn : Cg P w K mg base CX0 1 "previous_turn" sp_previous_turn) {f : Addr} {cdv : Value} {A : Around} {outer : List Env} {s : Shared} {H : Hp} {E : XK} (hgd : (A.deeper (envOfC "announced" (defScope st_announced) s.heap.objs.size f cdv)).guards = some []) (hr : Room 4 (A.deeper (envOfC "announced" (defScope st_announced) s.heap.objs.size f cdv))) :
    {t : TS // PSs (cxOf CX0 P w K mg base ["talk", "station", "symbols", "node", "turn", "start", "pointer"] "announced" (defScope st_announced) f cdv A outer s H E).nox (defBody st_announced) t} := ⟨_, (pss_cons (ps_set (i := 4) sc_announced.nd rfl (Or.inl rfl) (pe_cg cg_previous_turn hgd hr (by decide) (by rfl) pass0 (pa_cons (pv 0) (pa_cons (pv 1) (pa_cons (pe_op oSub (pe_callB (kLen (K := K)) (by rfl) T.b_len (by decide +kernel) (pa_cons (pv 3) pa_nil)) pe_int) pa_nil)))))
    (pss_cons (ps_set (i := 5) sc_announced.nd rfl (Or.inl rfl) (pe_join (pe_ifExp (pt_cmpR oIs (pv 4) pe_non (by first | exact nomark _ | rfl)) (pe_tupF pa_nil) (pe_slice (kSlG (K := K)) (pv 3) po_none (po_some (pe_op (kAddF (K := K)) (pv 4) pe_int))))))
    (pss_cons (ps_set (i := 6) sc_announced.nd rfl (Or.inl rfl) (pe_join (pe_ifExp (pt_cmpR oIs (pv 4) pe_non (by first | exact nomark _ | rfl)) pe_int (pe_op (kAddF (K := K)) pe_int (pe_bmT PySem.F.plainAttrs_tuple PySem.F.slot_tuple_index PySem.F.type_tuple_index (mt_tindexD (room_u hr)) (pe_cg cg_denoted hgd hr (by decide) (by rfl) pass0 (pa_cons (pv 0) (pa_cons (pv 1) (pa_cons (pv 2) pa_nil)))) (pa_cons (pv 5) pa_nil))))))
    (pss_one (ps_ret (pe_op (kAddF (K := K)) (pe_op (kAddF (K := K)) pe_int (pe_op (kMulG (K := K)) (pv 6) (pe_cg cg_base_of hgd hr (by decide) (by rfl) pass0 (pa_cons (pv 0) (pa_cons (pv 1) pa_nil))))) (pe_cg cg_number_of hgd hr (by decide) (by rfl) pass0 (pa_cons (pe_slice (kSlG (K := K)) (pv 3) (po_some (pe_callB (kLen (K := K)) (by rfl) T.b_len (by decide +kernel) (pa_cons (pv 5) pa_nil))) po_none) (pa_cons (pe_ix (kIx (K := K)) (pv 0) pe_int (fun _ _ => rfl)) pa_nil)))))))))⟩
noncomputable def dv__law_deck (T : Txt mg) {f : Addr} {cdv : Value} {A : Around} {outer : List Env} {s : Shared} {H : Hp} {E : XK} (hgd : (A.deeper (envOfC "_law_deck" (defScope st__law_deck) s.heap.objs.size f cdv)).guards = some []) (hr : Room 0 (A.deeper (envOfC "_law_deck" (defScope st__law_deck) s.heap.objs.size f cdv))) :
    {t : TS // PSs (cxOf CX0 P w K mg base ["_law_script", "_law_cells", "_law_mixed", "_law_cell"] "_law_deck" (defScope st__law_deck) f cdv A outer s H E).nox (defBody st__law_deck) t} := ⟨_, (pss_cons (ps_par (i := 1) (j := 2) rfl sc__law_deck.nd rfl rfl (by decide) rfl rfl (pa_cons (pe_callTy (kList (K := K)) (by rfl) T.b_list (by decide +kernel) (pa_cons (pe_slice (kSlG (K := K)) (pv 0) po_none (po_some pe_int)) pa_nil)) (pa_cons pe_int pa_nil)) (by rfl))
    (pss_cons (ps_for PassesOwn.never rfl (pi_seqK (K := K) (pv 1)) (pg_name (i := 3) sc__law_deck.nd rfl (Or.inl rfl)) (pss_one (ps_set (i := 2) sc__law_deck.nd rfl (Or.inl rfl) (pe_op oMod (pe_op (kAddF (K := K)) (pe_op (kAddF (K := K)) (pe_op (kMulG (K := K)) (pv 2) pe_int) (pe_op oMod (pv 3) pe_int)) pe_int) pe_int))))
    (pss_one (ps_ret (pe_lst (pa_cons (pe_revK (K := K) (pv 1)) (pa_cons (pv 2) (pa_cons pe_int pa_nil))))))))⟩
noncomputable def dv__law_draw (T : Txt mg) {f : Addr} {cdv : Value} {A : Around} {outer : List Env} {s : Shared} {H : Hp} {E : XK} (hgd : (A.deeper (envOfC "_law_draw" (defScope st__law_draw) s.heap.objs.size f cdv)).guards = some []) (hr : Room 0 (A.deeper (envOfC "_law_draw" (defScope st__law_draw) s.heap.objs.size f cdv))) :
    {t : TS // PSs (cxOf CX0 P w K mg base ["_law_deck_here", "_law_many", "_law_cell", "_law_number"] "_law_draw" (defScope st__law_draw) f cdv A outer s H E).nox (defBody st__law_draw) t} := ⟨_, (pss_cons (ps_asg (pe_op (kAddF (K := K)) (pe_ix (kIx (K := K)) (pv 0) pe_int (fun _ _ => rfl)) pe_int) (pg_sub (pv 0) pe_int set_list (fun _ => rfl)))
    (pss_cons (ps_set (i := 2) sc__law_draw.nd rfl (Or.inl rfl) (pe_ix (kIx (K := K)) (pv 0) pe_int (fun _ _ => rfl)))
    (pss_join (ps_if (pt_cmpR (kNe (K := K) hr) (pe_ix (kIx (K := K)) (pv 0) pe_int (fun _ _ => rfl)) (pe_lst pa_nil) (by first | exact nomark _ | rfl)) (pss_cons (ps_set (i := 2) sc__law_draw.nd rfl (Or.inl rfl) (bm0K (K := K) (pe_bm0 PySem.F.plainAttrs_list PySem.F.slot_list_pop PySem.F.type_list_pop mt_pop (pe_ix (kIx (K := K)) (pv 0) pe_int (fun _ _ => rfl)))))
    (pss_cons (ps_if (pt_cmpR oGe (pv 2) (pe_op oPow pe_int pe_int) (by first | exact nomark _ | rfl)) (pss_cons (ps_expr (bmK (K := K) (pe_bm PySem.F.plainAttrs_list PySem.F.slot_list_append PySem.F.type_list_append mt_append (pe_ix (kIx (K := K)) (pv 0) pe_int (fun _ _ => rfl)) (pa_cons (pe_op oFdiv (pv 2) (pv 1)) pa_nil))))
    (pss_one (ps_ret (pe_op oMod (pv 2) (pv 1))))) pss_nil)
    (pss_one (ps_set (i := 2) sc__law_draw.nd rfl (Or.inl rfl) (pe_op (kAddF (K := K)) (pv 2) (pe_ix (kIx (K := K)) (pv 0) pe_int (fun _ _ => rfl))))))) pss_nil)
    (pss_cons (ps_set (i := 3) sc__law_draw.nd rfl (Or.inl rfl) (pe_op oMod (pe_op (kMulG (K := K)) (pe_op (kAddF (K := K)) (pe_op (kAddF (K := K)) (pe_op oMod (pv 2) pe_int) (pe_op (kMulG (K := K)) (pe_op (kMulG (K := K)) pe_int (pe_ix (kIx (K := K)) (pv 0) pe_int (fun _ _ => rfl))) (pe_ix (kIx (K := K)) (pv 0) pe_int (fun _ _ => rfl)))) pe_int) pe_int) pe_int))
    (pss_cons (ps_set (i := 3) sc__law_draw.nd rfl (Or.inl rfl) (pe_op oMod (pe_op (kAddF (K := K)) (pe_op (kAddF (K := K)) (pe_op (kMulG (K := K)) (pv 3) (pv 3)) (pe_op (kMulG (K := K)) pe_int (pe_ix (kIx (K := K)) (pv 0) pe_int (fun _ _ => rfl)))) pe_int) pe_int))
    (pss_one (ps_ret (pe_op oMod (pe_op oFdiv (pe_op oMod (pe_op (kMulG (K := K)) (pv 3) (pe_op (kAddF (K := K)) (pe_op oFdiv (pv 3) pe_int) pe_int)) pe_int) pe_int) (pv 1)))))))))⟩
noncomputable def dv__law_pick (T : Txt mg) {sp__law_draw : Sp} (cg__law_draw : Cg P w K mg base CX0 1 "_law_draw" sp__law_draw) {f : Addr} {cdv : Value} {A : Around} {outer : List Env} {s : Shared} {H : Hp} {E : XK} (hgd : (A.deeper (envOfC "_law_pick" (defScope st__law_pick) s.heap.objs.size f cdv)).guards = some []) (hr : Room 1 (A.deeper (envOfC "_law_pick" (defScope st__law_pick) s.heap.objs.size f cdv))) :
    {t : TS // PSs (cxOf CX0 P w K mg base ["_law_deck_here", "_law_some"] "_law_pick" (defScope st__law_pick) f cdv A outer s H E).nox (defBody st__law_pick) t} := ⟨_, (pss_one (ps_ret (pe_ix (kIx (K := K)) (pv 1) (pe_cg cg__law_draw hgd hr (by decide) (by rfl) pass0 (pa_cons (pv 0) (pa_cons (pe_callB (kLen (K := K)) (by rfl) T.b_len (by decide +kernel) (pa_cons (pv 1) pa_nil)) pa_nil))) (fun _ _ => rfl))))⟩
noncomputable def dv__law_order (T : Txt mg) {sp__law_draw : Sp} (cg__law_draw : Cg P w K mg base CX0 1 "_law_draw" sp__law_draw) {f : Addr} {cdv : Value} {A : Around} {outer : List Env} {s : Shared} {H : Hp} {E : XK} (hgd : (A.deeper (envOfC "_law_order" (defScope st__law_order) s.heap.objs.size f cdv)).guards = some []) (hr : Room 1 (A.deeper (envOfC "_law_order" (defScope st__law_order) s.heap.objs.size f cdv))) :
    {t : TS // PSs (cxOf CX0 P w K mg base ["_law_deck_here", "_law_stations", "_law_most", "_law_way", "_law_many", "_law_first", "_law_k"] "_law_order" (defScope st__law_order) f cdv A outer s H E).nox (defBody st__law_order) t} := ⟨_, (pss_cons (ps_asg (pe_tupF (pa_cons (pe_cg cg__law_draw hgd hr (by decide) (by rfl) pass0 (pa_cons (pv 0) (pa_cons pe_int pa_nil))) (pa_cons (pe_cg cg__law_draw hgd hr (by decide) (by rfl) pass0 (pa_cons (pv 0) (pa_cons (pe_op (kAddF (K := K)) (pv 2) pe_int) pa_nil))) (pa_cons (pe_cg cg__law_draw hgd hr (by decide) (by rfl) pass0 (pa_cons (pv 0) (pa_cons (pv 1) pa_nil))) pa_nil)))) (pg_tupK (K := K) (n := 3) rfl (pgs_cons (pg_name (i := 3) sc__law_order.nd rfl (Or.inr rfl)) (pgs_cons (pg_name (i := 4) sc__law_order.nd rfl (Or.inl rfl)) (pgs_cons (pg_name (i := 5) sc__law_order.nd rfl (Or.inr rfl)) pgs_nil)))))
    (pss_cons (ps_if (pt_cmpR (kEq (K := K) hr) (pv 3) pe_int (by first | exact nomark _ | rfl)) (pss_one (ps_ret (pe_op (kMulG (K := K)) (pe_tupF (pa_cons (pv 5) pa_nil)) (pv 4)))) pss_nil)
    (pss_cons (ps_if (pt_cmpR oLt (pv 3) pe_int (by first | exact nomark _ | rfl)) (pss_one (ps_ret (pe_callTy (kTupleF (K := K)) (by rfl) T.b_tuple (by decide +kernel) (pa_cons (pe_lc (own := [("_law_k", 6)]) rfl sc__law_order.nd (pi_range1 (by rfl) T.b_range (pa_cons (pv 4) pa_nil)) (blkOk_by (N := ["_law_deck_here", "_law_stations", "_law_most", "_law_way", "_law_many", "_law_first", "_law_k"]) (sc := defScope st__law_order) (by decide +kernel)) (fun _ _ _ _ _ => (pg_name (i := 6) sc__law_order.nd rfl (Or.inl rfl))) (fun _ _ _ _ _ => pts_nil) (fun _ _ _ _ _ => (pe_op oMod (pe_op (kAddF (K := K)) (pv 5) (pe_op oFdiv (pv 6) (pv 3))) (pv 1)))) pa_nil)))) pss_nil)
    (pss_one (ps_ret (pe_callTy (kTupleF (K := K)) (by rfl) T.b_tuple (by decide +kernel) (pa_cons (pe_lc (own := [("_law_k", 6)]) rfl sc__law_order.nd (pi_range1 (by rfl) T.b_range (pa_cons (pv 4) pa_nil)) (blkOk_by (N := ["_law_deck_here", "_law_stations", "_law_most", "_law_way", "_law_many", "_law_first", "_law_k"]) (sc := defScope st__law_order) (by decide +kernel)) (fun _ _ _ _ _ => (pg_name (i := 6) sc__law_order.nd rfl (Or.inl rfl))) (fun _ _ _ _ _ => pts_nil) (fun _ _ _ _ _ => (pe_cg cg__law_draw hgd hr (by decide) (by rfl) pass0 (pa_cons (pv 0) (pa_cons (pv 1) pa_nil))))) pa_nil)))))))⟩
noncomputable def dv__law_power (T : Txt mg) {f : Addr} {cdv : Value} {A : Around} {outer : List Env} {s : Shared} {H : Hp} {E : XK} (hgd : (A.deeper (envOfC "_law_power" (defScope st__law_power) s.heap.objs.size f cdv)).guards = some []) (hr : Room 0 (A.deeper (envOfC "_law_power" (defScope st__law_power) s.heap.objs.size f cdv))) :
    {t : TS // PSs (cxOf CX0 P w K mg base ["_law_size", "_law_many", "_law_found", "_law_k"] "_law_power" (defScope st__law_power) f cdv A outer s H E).nox (defBody st__law_power) t} := ⟨_, (pss_cons (ps_set (i := 2) sc__law_power.nd rfl (Or.inl rfl) pe_int)
    (pss_cons (ps_for PassesOwn.never rfl (pi_range1 (by rfl) T.b_range (pa_cons (pv 1) pa_nil)) (pg_name (i := 3) sc__law_power.nd rfl (Or.inl rfl)) (pss_one (ps_set (i := 2) sc__law_power.nd rfl (Or.inl rfl) (pe_op (kMulG (K := K)) (pv 2) (pv 0)))))
    (pss_one (ps_ret (pv 2)))))⟩
noncomputable def dv__law_base (T : Txt mg) {sp__law_power : Sp} (cg__law_power : Cg P w K mg base CX0 1 "_law_power" sp__law_power) {f : Addr} {cdv : Value} {A : Around} {outer : List Env} {s : Shared} {H : Hp} {E : XK} (hgd : (A.deeper (envOfC "_law_base" (defScope st__law_base) s.heap.objs.size f cdv)).guards = some []) (hr : Room 1 (A.deeper (envOfC "_law_base" (defScope st__law_base) s.heap.objs.size f cdv))) :
    {t : TS // PSs (cxOf CX0 P w K mg base ["_law_size", "_law_order_here", "_law_who", "_law_ends", "_law_k", "_law_speaker", "_law_start", "_law_end"] "_law_base" (defScope st__law_base) f cdv A outer s H E).nox (defBody st__law_base) t} := ⟨_, (pss_cons (ps_setLc (i := 3) (own := [("_law_k", 4), ("_law_speaker", 5)]) rfl sc__law_base.nd rfl rfl (sw_true rfl rfl rfl (by decide +kernel)) (pi_enumK (K := K) (by rfl) T.b_enumerate (pa_cons (pv 1) pa_nil)) (blkOk_by (N := ["_law_size", "_law_order_here", "_law_who", "_law_ends", "_law_k", "_law_speaker", "_law_start", "_law_end"]) (sc := defScope st__law_base) (by decide +kernel)) (fun _ _ _ _ _ => (pg_tupK (K := K) (n := 2) rfl (pgs_cons (pg_name (i := 4) sc__law_base.nd rfl (Or.inl rfl)) (pgs_cons (pg_name (i := 5) sc__law_base.nd rfl (Or.inl rfl)) pgs_nil)))) (fun _ _ _ _ _ => (pts_one (pt_cmpR (kEq (K := K) hr) (pv 5) (pv 2) (by first | exact nomark _ | rfl)))) (fun _ _ _ _ _ => (pe_op (kAddF (K := K)) (pv 4) pe_int)))
    (pss_one (ps_ret (pe_cg cg__law_power hgd hr (by decide) (by rfl) pass0 (pa_cons (pv 0) (pa_cons (pe_callB (kMax (K := K) rfl) (by rfl) T.b_max (by decide +kernel) (pa_cons (pe_op (kAddF (K := K)) (pe_lst (pa_cons pe_int pa_nil)) (pe_lc (own := [("_law_start", 6), ("_law_end", 7)]) rfl sc__law_base.nd (pi_zipK (K := K) (by rfl) T.b_zip (pa_cons (pe_op (kAddF (K := K)) (pe_lst (pa_cons pe_int pa_nil)) (pv 3)) (pa_cons (pv 3) pa_nil))) (blkOk_by (N := ["_law_size", "_law_order_here", "_law_who", "_law_ends", "_law_k", "_law_speaker", "_law_start", "_law_end"]) (sc := defScope st__law_base) (by decide +kernel)) (fun _ _ _ _ _ => (pg_tupK (K := K) (n := 2) rfl (pgs_cons (pg_name (i := 6) sc__law_base.nd rfl (Or.inl rfl)) (pgs_cons (pg_name (i := 7) sc__law_base.nd rfl (Or.inl rfl)) pgs_nil)))) (fun _ _ _ _ _ => pts_nil) (fun _ _ _ _ _ => (pe_op oSub (pv 7) (pv 6))))) pa_nil)) pa_nil))))))⟩
noncomputable def dv__law_node (T : Txt mg) {sp__law_base : Sp} {sp__law_power : Sp} (cg__law_base : Cg P w K mg base CX0 2 "_law_base" sp__law_base) (cg__law_power : Cg P w K mg base CX0 1 "_law_power" sp__law_power) {f : Addr} {cdv : Value} {A : Around} {outer : List Env} {s : Shared} {H : Hp} {E : XK} (hgd : (A.deeper (envOfC "_law_node" (defScope st__law_node) s.heap.objs.size f cdv)).guards = some []) (hr : Room 2 (A.deeper (envOfC "_law_node" (defScope st__law_node) s.heap.objs.size f cdv))) :
    {t : TS // PSs (cxOf CX0 P w K mg base ["_law_size", "_law_order_here", "_law_who", "_law_symbol", "_law_before", "_law_base_here", "_law_point", "_law_rest", "_law_start", "_law_k", "_law_later", "_law_letters", "_law_place"] "_law_node" (defScope st__law_node) f cdv A outer s H E).nox (defBody st__law_node) t} := ⟨_, (pss_cons (ps_set (i := 5) sc__law_node.nd rfl (Or.inl rfl) (pe_cg cg__law_base hgd hr (by decide) (by rfl) pass0 (pa_cons (pv 0) (pa_cons (pv 1) (pa_cons (pv 2) pa_nil)))))
    (pss_cons (ps_par (i := 6) (j := 7) rfl sc__law_node.nd rfl rfl (by decide) rfl rfl (pa_cons (pe_op oFdiv (pe_op oSub (pv 3) pe_int) (pv 5)) (pa_cons (pe_op oMod (pe_op oSub (pv 3) pe_int) (pv 5)) pa_nil)) (by rfl))
    (pss_cons (ps_set (i := 8) sc__law_node.nd rfl (Or.inl rfl) (pe_join (pe_ifExp (PW.pt (pw_and (pt_cmpR oGt (pv 3) pe_int (by first | exact nomark _ | rfl)) (pw_and1 (pt_cmpR oLe (pv 6) (pe_callB (kLen (K := K)) (by rfl) T.b_len (by decide +kernel) (pa_cons (pv 4) pa_nil)) (by first | exact nomark _ | rfl))))) (pe_ix (kIx (K := K)) (pe_op (kAddF (K := K)) (pe_lst (pa_cons (pe_tupF pa_nil) pa_nil)) (pv 4)) (pv 6) (fun _ _ => rfl)) pe_non)))
    (pss_cons (ps_if (pt_cmpR oIs (pv 8) pe_non (by first | exact nomark _ | rfl)) (pss_one (ps_ret pe_non)) pss_nil)
    (pss_cons (ps_setLc (i := 10) (own := [("_law_k", 9)]) rfl sc__law_node.nd rfl rfl (sw_true rfl rfl rfl (by decide +kernel)) (pi_range2 (by rfl) T.b_range (pa_cons (pe_callB (kLen (K := K)) (by rfl) T.b_len (by decide +kernel) (pa_cons (pv 8) pa_nil)) (pa_cons (pe_callB (kLen (K := K)) (by rfl) T.b_len (by decide +kernel) (pa_cons (pv 1) pa_nil)) pa_nil))) (blkOk_by (N := ["_law_size", "_law_order_here", "_law_who", "_law_symbol", "_law_before", "_law_base_here", "_law_point", "_law_rest", "_law_start", "_law_k", "_law_later", "_law_letters", "_law_place"]) (sc := defScope st__law_node) (by decide +kernel)) (fun _ _ _ _ _ => (pg_name (i := 9) sc__law_node.nd rfl (Or.inl rfl))) (fun _ _ _ _ _ => (pts_one (pt_cmpR (kEq (K := K) hr) (pe_ix (kIx (K := K)) (pv 1) (pv 9) (fun _ _ => rfl)) (pv 2) (by first | exact nomark _ | rfl)))) (fun _ _ _ _ _ => (pv 9)))
    (pss_cons (ps_if (pt_cmpR (kEq (K := K) hr) (pv 10) (pe_lst pa_nil) (by first | exact nomark _ | rfl)) (pss_one (ps_ret pe_non)) pss_nil)
    (pss_cons (ps_par (i := 11) (j := 12) rfl sc__law_node.nd rfl rfl (by decide) rfl rfl (pa_cons (pe_tupF pa_nil) (pa_cons (pe_cg cg__law_power hgd hr (by decide) (by rfl) pass0 (pa_cons (pv 0) (pa_cons (pe_op oSub (pe_ix (kIx (K := K)) (pv 10) pe_int (fun _ _ => rfl)) (pe_callB (kLen (K := K)) (by rfl) T.b_len (by decide +kernel) (pa_cons (pv 8) pa_nil))) pa_nil))) pa_nil)) (by rfl))
    (pss_cons (ps_for PassesOwn.never rfl (pi_range1 (by rfl) T.b_range (pa_cons (pe_op oSub (pe_op (kAddF (K := K)) (pe_ix (kIx (K := K)) (pv 10) pe_int (fun _ _ => rfl)) pe_int) (pe_callB (kLen (K := K)) (by rfl) T.b_len (by decide +kernel) (pa_cons (pv 8) pa_nil))) pa_nil)) (pg_name (i := 9) sc__law_node.nd rfl (Or.inl rfl)) (pss_cons (ps_set (i := 11) sc__law_node.nd rfl (Or.inl rfl) (pe_op (kAddF (K := K)) (pv 11) (pe_tupF (pa_cons (pe_op oFdiv (pv 7) (pv 12)) pa_nil))))
    (pss_one (ps_par (i := 7) (j := 12) rfl sc__law_node.nd rfl rfl (by decide) rfl rfl (pa_cons (pe_op oMod (pv 7) (pv 12)) (pa_cons (pe_op oFdiv (pv 12) (pv 0)) pa_nil)) (by rfl)))))
    (pss_one (ps_ret (pe_ifExp (pt_cmpR oLt (pe_ix (kIx (K := K)) (pv 11) pe_int (fun _ _ => rfl)) (pv 0) (by first | exact nomark _ | rfl)) (pe_op (kAddF (K := K)) (pv 8) (pv 11)) pe_non)))))))))))⟩
noncomputable def dv__law_nodes (T : Txt mg) {sp__law_node : Sp} (cg__law_node : Cg P w K mg base CX0 3 "_law_node" sp__law_node) {f : Addr} {cdv : Value} {A : Around} {outer : List Env} {s : Shared} {H : Hp} {E : XK} (hgd : (A.deeper (envOfC "_law_nodes" (defScope st__law_nodes) s.heap.objs.size f cdv)).guards = some []) (hr : Room 3 (A.deeper (envOfC "_law_nodes" (defScope st__law_nodes) s.heap.objs.size f cdv))) :
    {t : TS // PSs (cxOf CX0 P w K mg base ["_law_size", "_law_order_here", "_law_who", "_law_marks", "_law_found", "_law_symbol"] "_law_nodes" (defScope st__law_nodes) f cdv A outer s H E).nox (defBody st__law_nodes) t} := ⟨_, (pss_cons (ps_set (i := 4) sc__law_nodes.nd rfl (Or.inl rfl) (pe_lst pa_nil))
    (pss_cons (ps_for PassesOwn.never rfl (pi_seqK (K := K) (pv 3)) (pg_name (i := 5) sc__law_nodes.nd rfl (Or.inl rfl)) (pss_one (ps_expr (bmK (K := K) (pe_bm PySem.F.plainAttrs_list PySem.F.slot_list_append PySem.F.type_list_append mt_append (pv 4) (pa_cons (pe_cg cg__law_node hgd hr (by decide) (by rfl) pass0 (pa_cons (pv 0) (pa_cons (pv 1) (pa_cons (pv 2) (pa_cons (pv 5) (pa_cons (pv 4) pa_nil)))))) pa_nil))))))
    (pss_one (ps_ret (pv 4)))))⟩
noncomputable def dv__law_announced (T : Txt mg) {sp__law_base : Sp} (cg__law_base : Cg P w K mg base CX0 2 "_law_base" sp__law_base) {f : Addr} {cdv : Value} {A : Around} {outer : List Env} {s : Shared} {H : Hp} {E : XK} (hgd : (A.deeper (envOfC "_law_announced" (defScope st__law_announced) s.heap.objs.size f cdv)).guards = some []) (hr : Room 2 (A.deeper (envOfC "_law_announced" (defScope st__law_announced) s.heap.objs.size f cdv))) :
    {t : TS // PSs (cxOf CX0 P w K mg base ["_law_size", "_law_order_here", "_law_who", "_law_nodes_here", "_law_goal", "_law_turns", "_law_start", "_law_number", "_law_letter", "_law_point", "_law_k"] "_law_announced" (defScope st__law_announced) f cdv A outer s H E).nox (defBody st__law_announced) t} := ⟨_, (pss_cons (ps_setLc (i := 5) (own := [("_law_k", 10)]) rfl sc__law_announced.nd rfl rfl (sw_true rfl rfl rfl (by decide +kernel)) (pi_range1 (by rfl) T.b_range (pa_cons (pe_op oSub (pe_callB (kLen (K := K)) (by rfl) T.b_len (by decide +kernel) (pa_cons (pv 4) pa_nil)) pe_int) pa_nil)) (blkOk_by (N := ["_law_size", "_law_order_here", "_law_who", "_law_nodes_here", "_law_goal", "_law_turns", "_law_start", "_law_number", "_law_letter", "_law_point", "_law_k"]) (sc := defScope st__law_announced) (by decide +kernel)) (fun _ _ _ _ _ => (pg_name (i := 10) sc__law_announced.nd rfl (Or.inl rfl))) (fun _ _ _ _ _ => (pts_one (pt_cmpR (kEq (K := K) hr) (pe_ix (kIx (K := K)) (pv 1) (pv 10) (fun _ _ => rfl)) (pv 2) (by first | exact nomark _ | rfl)))) (fun _ _ _ _ _ => (pv 10)))
    (pss_cons (ps_set (i := 6) sc__law_announced.nd rfl (Or.inl rfl) (pe_join (pe_ifExp (pt_cmpR (kNe (K := K) hr) (pv 5) (pe_lst pa_nil) (by first | exact nomark _ | rfl)) (pe_slice (kSlG (K := K)) (pv 4) po_none (po_some (pe_op (kAddF (K := K)) (pe_ix (kIx (K := K)) (pv 5) (pe_un un_neg pe_int) (fun _ _ => rfl)) pe_int))) (pe_tupF pa_nil))))
    (pss_cons (ps_if (PW.pt (pw_and (pt_cmpR (kNe (K := K) hr) (pv 5) (pe_lst pa_nil) (by first | exact nomark _ | rfl)) (pw_and1 (pt_cmpR (kNotIn (K := K) hr) (pv 6) (pv 3) (by first | exact nomark _ | rfl))))) (pss_one (ps_ret pe_non)) pss_nil)
    (pss_cons (ps_set (i := 7) sc__law_announced.nd rfl (Or.inl rfl) pe_int)
    (pss_cons (ps_for PassesOwn.never rfl (pi_seqK (K := K) (pe_slice (kSlG (K := K)) (pv 4) (po_some (pe_callB (kLen (K := K)) (by rfl) T.b_len (by decide +kernel) (pa_cons (pv 6) pa_nil))) po_none)) (pg_name (i := 8) sc__law_announced.nd rfl (Or.inl rfl)) (pss_one (ps_set (i := 7) sc__law_announced.nd rfl (Or.inl rfl) (pe_op (kAddF (K := K)) (pe_op (kMulG (K := K)) (pv 7) (pv 0)) (pv 8)))))
    (pss_cons (ps_set (i := 9) sc__law_announced.nd rfl (Or.inl rfl) (bmK (K := K) (pe_bm PySem.F.plainAttrs_list PySem.F.slot_list_index PySem.F.type_list_index (mt_indexD (room_u hr)) (pe_op (kAddF (K := K)) (pe_lst (pa_cons (pe_tupF pa_nil) pa_nil)) (pv 3)) (pa_cons (pv 6) pa_nil))))
    (pss_one (ps_ret (pe_op (kAddF (K := K)) (pe_op (kAddF (K := K)) pe_int (pe_op (kMulG (K := K)) (pv 9) (pe_cg cg__law_base hgd hr (by decide) (by rfl) pass0 (pa_cons (pv 0) (pa_cons (pv 1) (pa_cons (pv 2) pa_nil)))))) (pv 7))))))))))⟩
noncomputable def dv__law_noise (T : Txt mg) {sp__law_base : Sp} {sp__law_draw : Sp} {sp__law_pick : Sp} (cg__law_base : Cg P w K mg base CX0 2 "_law_base" sp__law_base) (cg__law_draw : Cg P w K mg base CX0 1 "_law_draw" sp__law_draw) (cg__law_pick : Cg P w K mg base CX0 2 "_law_pick" sp__law_pick) {f : Addr} {cdv : Value} {A : Around} {outer : List Env} {s : Shared} {H : Hp} {E : XK} (hgd : (A.deeper (envOfC "_law_noise" (defScope st__law_noise) s.heap.objs.size f cdv)).guards = some []) (hr : Room 2 (A.deeper (envOfC "_law_noise" (defScope st__law_noise) s.heap.objs.size f cdv))) :
    {t : TS // PSs (cxOf CX0 P w K mg base ["_law_deck_here", "_law_size", "_law_order_here", "_law_who", "_law_marks", "_law_base_here", "_law_k", "_law_way", "_law_here", "_law_point"] "_law_noise" (defScope st__law_noise) f cdv A outer s H E).nox (defBody st__law_noise) t} := ⟨_, (pss_cons (ps_set (i := 5) sc__law_noise.nd rfl (Or.inl rfl) (pe_cg cg__law_base hgd hr (by decide) (by rfl) pass0 (pa_cons (pv 1) (pa_cons (pv 2) (pa_cons (pv 3) pa_nil)))))
    (pss_one (ps_for PassesOwn.never rfl (pi_range1 (by rfl) T.b_range (pa_cons (pe_cg cg__law_draw hgd hr (by decide) (by rfl) pass0 (pa_cons (pv 0) (pa_cons pe_int pa_nil))) pa_nil)) (pg_name (i := 6) sc__law_noise.nd rfl (Or.inl rfl)) (pss_cons (ps_set (i := 7) sc__law_noise.nd rfl (Or.inl rfl) (pe_cg cg__law_draw hgd hr (by decide) (by rfl) pass0 (pa_cons (pv 0) (pa_cons pe_int pa_nil))))
    (pss_cons (ps_set (i := 8) sc__law_noise.nd rfl (Or.inl rfl) (pe_op (kAddF (K := K)) (pe_lst (pa_cons pe_int pa_nil)) (pv 4)))
    (pss_one (ps_if (pt_cmpR oLt (pv 7) pe_int (by first | exact nomark _ | rfl)) (pss_one (ps_expr (bmK (K := K) (pe_bm PySem.F.plainAttrs_list PySem.F.slot_list_append PySem.F.type_list_append mt_append (pv 4) (pa_cons (pe_cg cg__law_pick hgd hr (by decide) (by rfl) pass0 (pa_cons (pv 0) (pa_cons (pv 8) pa_nil))) pa_nil))))) (pss_cons (ps_set (i := 9) sc__law_noise.nd rfl (Or.inl rfl) (pe_op (kMulG (K := K)) (pe_cg cg__law_draw hgd hr (by decide) (by rfl) pass0 (pa_cons (pv 0) (pa_cons (pe_op (kAddF (K := K)) (pe_callB (kLen (K := K)) (by rfl) T.b_len (by decide +kernel) (pa_cons (pv 8) pa_nil)) (pv 7)) pa_nil))) (pe_callTy kInt (by rfl) T.b_int (by decide +kernel) (pa_cons (pe_cmpR oGt (pe_bmT PySem.F.plainAttrs_tuple PySem.F.slot_tuple_count PySem.F.type_tuple_count (kTcount (K := K)) (pv 2) (pa_cons (pv 3) pa_nil)) pe_int (by first | exact nomark _ | rfl)) pa_nil))))
    (pss_one (ps_expr (bmK (K := K) (pe_bm PySem.F.plainAttrs_list PySem.F.slot_list_append PySem.F.type_list_append mt_append (pv 4) (pa_cons (pe_op (kAddF (K := K)) (pe_op (kAddF (K := K)) pe_int (pe_op (kMulG (K := K)) (pv 9) (pv 5))) (pe_cg cg__law_draw hgd hr (by decide) (by rfl) pass0 (pa_cons (pv 0) (pa_cons (pv 5) pa_nil)))) pa_nil)))))))))))))⟩
noncomputable def dv__law_path_right (T : Txt mg) {sp__law_announced : Sp} {sp__law_draw : Sp} {sp__law_nodes : Sp} {sp__law_noise : Sp} {sp_announced : Sp} {sp_denoted : Sp} {sp_width : Sp} {sk_announced : Sp} (cg__law_announced : Cg P w K mg base CX0 3 "_law_announced" sp__law_announced) (cg__law_draw : Cg P w K mg base CX0 1 "_law_draw" sp__law_draw) (cg__law_nodes : Cg P w K mg base CX0 4 "_law_nodes" sp__law_nodes) (cg__law_noise : Cg P w K mg base CX0 3 "_law_noise" sp__law_noise) (cg_announced : Cg P w K mg base CX0 5 "announced" sp_announced) (cg_denoted : Cg P w K mg base CX0 4 "denoted" sp_denoted) (cg_width : Cg P w K mg base CX0 3 "width" sp_width) (ck_announced : Cgk P w K mg base CX0 5 "announced" ["node", "symbols", "station", "talk"] sk_announced) {f : Addr} {cdv : Value} {A : Around} {outer : List Env} {s : Shared} {H : Hp} {E : XK} (hgd : (A.deeper (envOfC "_law_path_right" (defScope st__law_path_right) s.heap.objs.size f cdv)).guards = some []) (hr : Room 5 (A.deeper (envOfC "_law_path_right" (defScope st__law_path_right) s.heap.objs.size f cdv))) :
    {t : TS // PSs (cxOf CX0 P w K mg base ["_law_deck_here", "_law_plan", "_law_other", "_law_who", "_law_size", "_law_order_here", "_law_turn", "_law_path", "_law_marks", "_law_goal", "_law_before", "_law_due", "_law_row", "_law_kept", "_law_told", "_law_k"] "_law_path_right" (defScope st__law_path_right) f cdv A outer s H E).nox (defBody st__law_path_right) t} := ⟨_, (pss_cons (ps_asg (pe_tupF (pa_cons (pe_ix (kIx (K := K)) (pv 1) pe_int (fun _ _ => rfl)) (pa_cons (pe_ix (kIx (K := K)) (pv 1) pe_int (fun _ _ => rfl)) pa_nil))) (pg_tupK (K := K) (n := 2) rfl (pgs_cons (pg_name (i := 4) sc__law_path_right.nd rfl (Or.inr rfl)) (pgs_cons (pg_name (i := 5) sc__law_path_right.nd rfl (Or.inr rfl)) pgs_nil))))
    (pss_cons (ps_par (i := 7) (j := 8) rfl sc__law_path_right.nd rfl rfl (by decide) rfl rfl (pa_cons (pe_callTy (kTupleF (K := K)) (by rfl) T.b_tuple (by decide +kernel) (pa_cons (pe_lc (own := [("_law_turn", 6)]) rfl sc__law_path_right.nd (pi_seqK (K := K) (pv 5)) (blkOk_by (N := ["_law_deck_here", "_law_plan", "_law_other", "_law_who", "_law_size", "_law_order_here", "_law_turn", "_law_path", "_law_marks", "_law_goal", "_law_before", "_law_due", "_law_row", "_law_kept", "_law_told", "_law_k"]) (sc := defScope st__law_path_right) (by decide +kernel)) (fun _ _ _ _ _ => (pg_name (i := 6) sc__law_path_right.nd rfl (Or.inl rfl))) (fun _ _ _ _ _ => pts_nil) (fun _ _ _ _ _ => (pe_cg cg__law_draw hgd hr (by decide) (by rfl) pass0 (pa_cons (pv 0) (pa_cons (pv 4) pa_nil))))) pa_nil)) (pa_cons (pe_lst pa_nil) pa_nil)) (by rfl))
    (pss_cons (ps_for PassesOwn.never rfl (pi_seqK (K := K) (pe_lc (own := [("_law_k", 15)]) rfl sc__law_path_right.nd (pi_range1 (by rfl) T.b_range (pa_cons (pe_callB (kLen (K := K)) (by rfl) T.b_len (by decide +kernel) (pa_cons (pv 5) pa_nil)) pa_nil)) (blkOk_by (N := ["_law_deck_here", "_law_plan", "_law_other", "_law_who", "_law_size", "_law_order_here", "_law_turn", "_law_path", "_law_marks", "_law_goal", "_law_before", "_law_due", "_law_row", "_law_kept", "_law_told", "_law_k"]) (sc := defScope st__law_path_right) (by decide +kernel)) (fun _ _ _ _ _ => (pg_name (i := 15) sc__law_path_right.nd rfl (Or.inl rfl))) (fun _ _ _ _ _ => (pts_one (pt_cmpR (kEq (K := K) hr) (pe_ix (kIx (K := K)) (pv 5) (pv 15) (fun _ _ => rfl)) (pv 3) (by first | exact nomark _ | rfl)))) (fun _ _ _ _ _ => (pv 15)))) (pg_name (i := 6) sc__law_path_right.nd rfl (Or.inl rfl)) (pss_cons (ps_expr (pe_cg cg__law_noise hgd hr (by decide) (by rfl) pass0 (pa_cons (pv 0) (pa_cons (pv 4) (pa_cons (pv 5) (pa_cons (pv 3) (pa_cons (pv 8) pa_nil)))))))
    (pss_cons (ps_set (i := 9) sc__law_path_right.nd rfl (Or.inl rfl) (pe_slice (kSlG (K := K)) (pv 7) po_none (po_some (pe_op (kAddF (K := K)) (pv 6) pe_int))))
    (pss_cons (ps_set (i := 10) sc__law_path_right.nd rfl (Or.inl rfl) (pe_cg cg__law_nodes hgd hr (by decide) (by rfl) pass0 (pa_cons (pv 4) (pa_cons (pv 5) (pa_cons (pv 3) (pa_cons (pv 8) pa_nil))))))
    (pss_cons (ps_set (i := 11) sc__law_path_right.nd rfl (Or.inl rfl) (pe_cg cg__law_announced hgd hr (by decide) (by rfl) pass0 (pa_cons (pv 4) (pa_cons (pv 5) (pa_cons (pv 3) (pa_cons (pv 10) (pa_cons (pv 9) pa_nil)))))))
    (pss_cons (ps_par (i := 12) (j := 13) rfl sc__law_path_right.nd rfl rfl (by decide) rfl rfl (pa_cons (pe_callTy (kTupleF (K := K)) (by rfl) T.b_tuple (by decide +kernel) (pa_cons (pv 8) pa_nil)) (pa_cons (pe_callB (kRepr (K := K) hgd hr) (by rfl) T.b_repr (by decide +kernel) (pa_cons (pe_tupF (pa_cons (pv 1) (pa_cons (pv 8) pa_nil))) pa_nil)) pa_nil)) (by rfl))
    (pss_cons (ps_set (i := 14) sc__law_path_right.nd rfl (Or.inl rfl) (pe_lst (pa_cons (pe_cg cg_announced hgd hr (by decide) (by rfl) pass0 (pa_cons (pv 1) (pa_cons (pv 3) (pa_cons (pv 12) (pa_cons (pv 9) pa_nil))))) (pa_cons (pe_cgk ck_announced hgd hr (by decide) (by rfl) pass0 (pk_cons (pv 9) (pk_cons (pv 12) (pk_cons (pv 3) (pk_cons (pv 2) pk_nil))))) pa_nil))))
    (pss_cons (ps_if (PW.pt (pw_or (pt_cmpR (kNe (K := K) hr) (pe_callB (kRepr (K := K) hgd hr) (by rfl) T.b_repr (by decide +kernel) (pa_cons (pv 14) pa_nil)) (pe_callB (kRepr (K := K) hgd hr) (by rfl) T.b_repr (by decide +kernel) (pa_cons (pe_lst (pa_cons (pv 11) (pa_cons (pv 11) pa_nil))) pa_nil)) (by first | exact nomark _ | rfl)) (pw_or1 (pt_cmpR (kNe (K := K) hr) (pe_callB (kRepr (K := K) hgd hr) (by rfl) T.b_repr (by decide +kernel) (pa_cons (pe_tupF (pa_cons (pv 1) (pa_cons (pe_callTy (kList (K := K)) (by rfl) T.b_list (by decide +kernel) (pa_cons (pv 12) pa_nil)) pa_nil))) pa_nil)) (pv 13) (by first | exact nomark _ | rfl))))) (pss_one (ps_ret pe_bl)) pss_nil)
    (pss_cons (ps_if (PW.pt (pw_or (pt_cmpR (kNe (K := K) hr) (pe_ix (kIx (K := K)) (pe_cg cg_denoted hgd hr (by decide) (by rfl) pass0 (pa_cons (pv 1) (pa_cons (pv 3) (pa_cons (pe_op (kAddF (K := K)) (pv 12) (pe_tupF (pa_cons (pv 11) pa_nil))) pa_nil)))) (pe_un un_neg pe_int) (fun _ _ => rfl)) (pv 9) (by first | exact nomark _ | rfl)) (pw_or1 (pt_cmpR oGe (pv 11) (pe_cg cg_width hgd hr (by decide) (by rfl) pass0 (pa_cons (pv 1) (pa_cons (pv 3) (pa_cons (pe_op (kAddF (K := K)) (pe_callB (kLen (K := K)) (by rfl) T.b_len (by decide +kernel) (pa_cons (pv 12) pa_nil)) pe_int) pa_nil)))) (by first | exact nomark _ | rfl))))) (pss_one (ps_ret pe_bl)) pss_nil)
    (pss_one (ps_expr (bmK (K := K) (pe_bm PySem.F.plainAttrs_list PySem.F.slot_list_append PySem.F.type_list_append mt_append (pv 8) (pa_cons (pv 11) pa_nil))))))))))))))
    (pss_one (ps_ret pe_bl)))))⟩
noncomputable def dv_law (T : Txt mg) {sp__law_deck : Sp} {sp__law_draw : Sp} {sp__law_order : Sp} {sp__law_path_right : Sp} (cg__law_deck : Cg P w K mg base CX0 1 "_law_deck" sp__law_deck) (cg__law_draw : Cg P w K mg base CX0 1 "_law_draw" sp__law_draw) (cg__law_order : Cg P w K mg base CX0 2 "_law_order" sp__law_order) (cg__law_path_right : Cg P w K mg base CX0 6 "_law_path_right" sp__law_path_right) {f : Addr} {cdv : Value} {A : Around} {outer : List Env} {s : Shared} {H : Hp} {E : XK} (hgd : (A.deeper (envOfC "law" (defScope st_law) s.heap.objs.size f cdv)).guards = some []) (hr : Room 6 (A.deeper (envOfC "law" (defScope st_law) s.heap.objs.size f cdv))) :
    {t : TS // PSs (cxOf CX0 P w K mg base ["_law_script", "_law_deck_here", "_law_turn", "_law_size", "_law_stations", "_law_order_here", "_law_plan", "_law_other", "_law_who"] "law" (defScope st_law) f cdv A outer s H E).nox (defBody st_law) t} := ⟨_, (pss_cons (ps_set (i := 1) sc_law.nd rfl (Or.inl rfl) (pe_cg cg__law_deck hgd hr (by decide) (by rfl) pass0 (pa_cons (pv 0) pa_nil)))
    (pss_cons (ps_for PassesOwn.never rfl (pi_range1 (by rfl) T.b_range (pa_cons pe_int pa_nil)) (pg_name (i := 2) sc_law.nd rfl (Or.inl rfl)) (pss_cons (ps_par (i := 3) (j := 4) rfl sc_law.nd rfl rfl (by decide) rfl rfl (pa_cons (pe_op (kAddF (K := K)) pe_int (pe_cg cg__law_draw hgd hr (by decide) (by rfl) pass0 (pa_cons (pv 1) (pa_cons pe_int pa_nil)))) (pa_cons (pe_op (kAddF (K := K)) pe_int (pe_cg cg__law_draw hgd hr (by decide) (by rfl) pass0 (pa_cons (pv 1) (pa_cons pe_int pa_nil)))) pa_nil)) (by rfl))
    (pss_cons (ps_set (i := 5) sc_law.nd rfl (Or.inl rfl) (pe_cg cg__law_order hgd hr (by decide) (by rfl) pass0 (pa_cons (pv 1) (pa_cons (pv 4) (pa_cons pe_int pa_nil)))))
    (pss_cons (ps_set (i := 6) sc_law.nd rfl (Or.inl rfl) (pe_tupF (pa_cons (pv 3) (pa_cons (pe_op (kMulG (K := K)) (pe_tupF (pa_cons (pe_tupF (pa_cons (pe_tupF pa_nil) (pa_cons (pe_tupF pa_nil) (pa_cons pe_int pa_nil)))) pa_nil)) (pv 4)) (pa_cons (pv 5) pa_nil)))))
    (pss_cons (ps_set (i := 7) sc_law.nd rfl (Or.inl rfl) (pe_tupF (pa_cons (pv 3) (pa_cons (pe_op (kMulG (K := K)) (pe_tupF (pa_cons (pe_tupF (pa_cons (pe_tupF (pa_cons (pe_tupF (pa_cons pe_str (pa_cons pe_int (pa_cons (pe_tupF (pa_cons pe_str pa_nil)) pa_nil)))) pa_nil)) (pa_cons (pe_tupF pa_nil) (pa_cons (pe_tupF (pa_cons pe_str (pa_cons pe_int pa_nil))) pa_nil)))) pa_nil)) (pv 4)) (pa_cons (pv 5) pa_nil)))))
    (pss_one (ps_for PassesOwn.never rfl (pi_range1 (by rfl) T.b_range (pa_cons (pv 4) pa_nil)) (pg_name (i := 8) sc_law.nd rfl (Or.inl rfl)) (pss_one (ps_if (pt_not (pt_truthK (K := K) (pe_cg cg__law_path_right hgd hr (by decide) (by rfl) pass0 (pa_cons (pv 1) (pa_cons (pv 6) (pa_cons (pv 7) (pa_cons (pv 8) pa_nil))))) (fun _ => rfl))) (pss_one (ps_ret pe_bl)) pss_nil)))))))))
    (pss_one (ps_ret pe_bl))))⟩
end
abbrev pl_power_of : List Str := ["size", "count"]
abbrev pl_next_turn : List Str := ["talk", "station", "turn"]
abbrev pl_previous_turn : List Str := ["talk", "station", "turn"]
abbrev pl_gap_of : List Str := ["talk", "station"]
abbrev pl_base_of : List Str := ["talk", "station"]
abbrev pl_width : List Str := ["talk", "station", "rounds"]
abbrev pl_digits_of : List Str := ["number", "size", "count"]
abbrev pl_number_of : List Str := ["letters", "size"]
abbrev pl_node_of : List Str := ["talk", "station", "symbol", "nodes"]
abbrev pl_denoted : List Str := ["talk", "station", "symbols"]
abbrev pl_announced : List Str := ["talk", "station", "symbols", "node"]
abbrev pl__law_deck : List Str := ["_law_script"]
abbrev pl__law_draw : List Str := ["_law_deck_here", "_law_many"]
abbrev pl__law_pick : List Str := ["_law_deck_here", "_law_some"]
abbrev pl__law_order : List Str := ["_law_deck_here", "_law_stations", "_law_most"]
abbrev pl__law_power : List Str := ["_law_size", "_law_many"]
abbrev pl__law_base : List Str := ["_law_size", "_law_order_here", "_law_who"]
abbrev pl__law_node : List Str := ["_law_size", "_law_order_here", "_law_who", "_law_symbol", "_law_before"]
abbrev pl__law_nodes : List Str := ["_law_size", "_law_order_here", "_law_who", "_law_marks"]
abbrev pl__law_announced : List Str := ["_law_size", "_law_order_here", "_law_who", "_law_nodes_here", "_law_goal"]
abbrev pl__law_noise : List Str := ["_law_deck_here", "_law_size", "_law_order_here", "_law_who", "_law_marks"]
abbrev pl__law_path_right : List Str := ["_law_deck_here", "_law_plan", "_law_other", "_law_who"]
abbrev pl_law : List Str := ["_law_script"]
section
variable {K : PySem.W.Frag}
def sv_power_of : {tf : TS × ATS // SS K tf.1 tf.2} := pk (ss_cons (ss_asg (se_int (i := 1)) (sg_name (i := 2)))
    (ss_cons (ss_for (si_rng1 (sa_cons (se_var (i := 1)) sa_nil)) (sg_name (i := 3)) (ss_aug (i := 2) (se_var (i := 0)) so_mulI))
    (ss_ret (se_var (i := 2)))))
theorem oa_power_of {P : Program} {w : World} {mg : Str → Option Value} {base : Heap} (T : Txt mg) {f : Addr} {fd : FuncData} (F : Fun K "power_of" "power_of" st_power_of f fd) {asp : AL} (hlen : ∀ vs S R, asp vs S R → vs.length = 2)
    (h : ∀ vs S R, asp vs S R → (sv_power_of (K := K)).1.2 { nx := fun _ S => R .non S, rt := R } (startA ["size", "count", "found", "step"] vs) S) : FnG P w K mg base CX0 1 f fd ["size", "count"] (cSp K asp) :=
  okA F sc_power_of (fun cdv A outer s H E hgd hr => (dv_power_of T hgd hr).2) (sv_power_of (K := K)).2 (by decide) hlen h
def sv_next_turn : {tf : TS × ATS // SS K tf.1 tf.2} := pk (ss_cons (ss_for (si_enum (sa_cons (se_op so_ix (se_var (i := 0)) (se_int (i := 2))) sa_nil)) (sg_tup (n := 2) (sgs_cons (sg_name (i := 3)) (sgs_cons (sg_name (i := 4)) sgs_nil))) (ss_if (st_and (st_test (se_op so_ge (se_var (i := 3)) (se_var (i := 2)))) (st_test (se_op so_eq (se_var (i := 4)) (se_var (i := 1))))) (ss_ret (se_var (i := 3))) ss_nil))
    (ss_ret se_non))
theorem oa_next_turn {P : Program} {w : World} {mg : Str → Option Value} {base : Heap} (T : Txt mg) {f : Addr} {fd : FuncData} (F : Fun K "next_turn" "next_turn" st_next_turn f fd) {asp : AL} (hlen : ∀ vs S R, asp vs S R → vs.length = 3)
    (h : ∀ vs S R, asp vs S R → (sv_next_turn (K := K)).1.2 { nx := fun _ S => R .non S, rt := R } (startA ["talk", "station", "turn", "number", "speaker"] vs) S) : FnG P w K mg base CX0 1 f fd ["talk", "station", "turn"] (cSp K asp) :=
  okA F sc_next_turn (fun cdv A outer s H E hgd hr => (dv_next_turn T hgd hr).2) (sv_next_turn (K := K)).2 (by decide) hlen h
def sv_previous_turn : {tf : TS × ATS // SS K tf.1 tf.2} := pk (ss_cons (ss_asg se_non (sg_name (i := 3)))
    (ss_cons (ss_for (si_enum (sa_cons (se_sl sl_any (se_op so_ix (se_var (i := 0)) (se_int (i := 2))) sp_no (sp_part (se_var (i := 2)))) sa_nil)) (sg_tup (n := 2) (sgs_cons (sg_name (i := 4)) (sgs_cons (sg_name (i := 5)) sgs_nil))) (ss_if (st_test (se_op so_eq (se_var (i := 5)) (se_var (i := 1)))) (ss_asg (se_var (i := 4)) (sg_name (i := 3))) ss_nil))
    (ss_ret (se_var (i := 3)))))
theorem oa_previous_turn {P : Program} {w : World} {mg : Str → Option Value} {base : Heap} (T : Txt mg) {f : Addr} {fd : FuncData} (F : Fun K "previous_turn" "previous_turn" st_previous_turn f fd) {asp : AL} (hlen : ∀ vs S R, asp vs S R → vs.length = 3)
    (h : ∀ vs S R, asp vs S R → (sv_previous_turn (K := K)).1.2 { nx := fun _ S => R .non S, rt := R } (startA ["talk", "station", "turn", "found", "number", "speaker"] vs) S) : FnG P w K mg base CX0 1 f fd ["talk", "station", "turn"] (cSp K asp) :=
  okA F sc_previous_turn (fun cdv A outer s H E hgd hr => (dv_previous_turn T hgd hr).2) (sv_previous_turn (K := K)).2 (by decide) hlen h
def sv_gap_of : {tf : TS × ATS // SS K tf.1 tf.2} := pk (ss_cons (ss_asg (se_tup (sa_cons (se_int (i := 0)) (sa_cons (se_un s1_neg1 (se_int (i := 1))) sa_nil))) (sg_tup (n := 2) (sgs_cons (sg_name (i := 2)) (sgs_cons (sg_name (i := 3)) sgs_nil))))
    (ss_cons (ss_for (si_enum (sa_cons (se_op so_ix (se_var (i := 0)) (se_int (i := 2))) sa_nil)) (sg_tup (n := 2) (sgs_cons (sg_name (i := 4)) (sgs_cons (sg_name (i := 5)) sgs_nil))) (ss_if (st_test (se_op so_eq (se_var (i := 5)) (se_var (i := 1)))) (ss_cons (ss_asg (se_cb sl_max (sa_cons (se_var (i := 2)) (sa_cons (se_op so_sub (se_var (i := 4)) (se_var (i := 3))) sa_nil))) (sg_name (i := 2)))
    (ss_asg (se_var (i := 4)) (sg_name (i := 3)))) ss_nil))
    (ss_ret (se_var (i := 2)))))
theorem oa_gap_of {P : Program} {w : World} {mg : Str → Option Value} {base : Heap} (T : Txt mg) {f : Addr} {fd : FuncData} (F : Fun K "gap_of" "gap_of" st_gap_of f fd) {asp : AL} (hlen : ∀ vs S R, asp vs S R → vs.length = 2)
    (h : ∀ vs S R, asp vs S R → (sv_gap_of (K := K)).1.2 { nx := fun _ S => R .non S, rt := R } (startA ["talk", "station", "largest", "last", "number", "speaker"] vs) S) : FnG P w K mg base CX0 1 f fd ["talk", "station"] (cSp K asp) :=
  okA F sc_gap_of (fun cdv A outer s H E hgd hr => (dv_gap_of T hgd hr).2) (sv_gap_of (K := K)).2 (by decide) hlen h
def sv_base_of {asp_gap_of : AL} {asp_power_of : AL} : {tf : TS × ATS // SS K tf.1 tf.2} := pk (ss_ret (se_call (g := asp_power_of) (sa_cons (se_op so_ix (se_var (i := 0)) (se_int (i := 0))) (sa_cons (se_call (g := asp_gap_of) (sa_cons (se_var (i := 0)) (sa_cons (se_var (i := 1)) sa_nil))) sa_nil))))
theorem oa_base_of {P : Program} {w : World} {mg : Str → Option Value} {base : Heap} (T : Txt mg) {asp_gap_of : AL} {asp_power_of : AL} (cg_gap_of : Cg P w K mg base CX0 1 "gap_of" (cSp K asp_gap_of)) (cg_power_of : Cg P w K mg base CX0 1 "power_of" (cSp K asp_power_of)) {f : Addr} {fd : FuncData} (F : Fun K "base_of" "base_of" st_base_of f fd) {asp : AL} (hlen : ∀ vs S R, asp vs S R → vs.length = 2)
    (h : ∀ vs S R, asp vs S R → (sv_base_of (K := K) (asp_gap_of := asp_gap_of) (asp_power_of := asp_power_of)).1.2 { nx := fun _ S => R .non S, rt := R } (startA ["talk", "station"] vs) S) : FnG P w K mg base CX0 2 f fd ["talk", "station"] (cSp K asp) :=
  okA F sc_base_of (fun cdv A outer s H E hgd hr => (dv_base_of T cg_gap_of cg_power_of hgd hr).2) (sv_base_of (K := K) (asp_gap_of := asp_gap_of) (asp_power_of := asp_power_of)).2 (by decide) hlen h
def sv_width {asp_base_of : AL} : {tf : TS × ATS // SS K tf.1 tf.2} := pk (ss_cons (ss_asg (se_bmT sm_count (se_op so_ix (se_var (i := 0)) (se_int (i := 2))) (sa_cons (se_var (i := 1)) sa_nil)) (sg_name (i := 3)))
    (ss_cons (ss_if (st_test (se_op so_eq (se_var (i := 3)) (se_int (i := 0)))) (ss_ret (se_int (i := 1))) ss_nil)
    (ss_ret (se_op so_add (se_int (i := 1)) (se_op so_mul (se_call (g := asp_base_of) (sa_cons (se_var (i := 0)) (sa_cons (se_var (i := 1)) sa_nil))) (se_join (se_if (st_test (se_op so_eq (se_var (i := 3)) (se_int (i := 1)))) (se_int (i := 1)) (se_var (i := 2)))))))))
theorem oa_width {P : Program} {w : World} {mg : Str → Option Value} {base : Heap} (T : Txt mg) {asp_base_of : AL} (cg_base_of : Cg P w K mg base CX0 2 "base_of" (cSp K asp_base_of)) {f : Addr} {fd : FuncData} (F : Fun K "width" "width" st_width f fd) {asp : AL} (hlen : ∀ vs S R, asp vs S R → vs.length = 3)
    (h : ∀ vs S R, asp vs S R → (sv_width (K := K) (asp_base_of := asp_base_of)).1.2 { nx := fun _ S => R .non S, rt := R } (startA ["talk", "station", "rounds", "turns"] vs) S) : FnG P w K mg base CX0 3 f fd ["talk", "station", "rounds"] (cSp K asp) :=
  okA F sc_width (fun cdv A outer s H E hgd hr => (dv_width T cg_base_of hgd hr).2) (sv_width (K := K) (asp_base_of := asp_base_of)).2 (by decide) hlen h
def sv_digits_of : {tf : TS × ATS // SS K tf.1 tf.2} := pk (ss_cons (ss_par (i := 3) (j := 4) (sa_cons (se_tup sa_nil) (sa_cons (se_var (i := 0)) sa_nil)))
    (ss_cons (ss_for (si_rng1 (sa_cons (se_var (i := 2)) sa_nil)) (sg_name (i := 5)) (ss_cons (ss_asg (se_tup (sa_cons (se_op so_mod (se_var (i := 4)) (se_var (i := 1))) (sa_star (se_var (i := 3)) sa_nil))) (sg_name (i := 3)))
    (ss_aug (i := 4) (se_var (i := 1)) so_fdiv)))
    (ss_ret (se_if (st_test (se_op so_eq (se_var (i := 4)) (se_int (i := 0)))) (se_var (i := 3)) se_non))))
theorem oa_digits_of {P : Program} {w : World} {mg : Str → Option Value} {base : Heap} (T : Txt mg) {f : Addr} {fd : FuncData} (F : Fun K "digits_of" "digits_of" st_digits_of f fd) {asp : AL} (hlen : ∀ vs S R, asp vs S R → vs.length = 3)
    (h : ∀ vs S R, asp vs S R → (sv_digits_of (K := K)).1.2 { nx := fun _ S => R .non S, rt := R } (startA ["number", "size", "count", "found", "left", "place"] vs) S) : FnG P w K mg base CX0 1 f fd ["number", "size", "count"] (cSp K asp) :=
  okA F sc_digits_of (fun cdv A outer s H E hgd hr => (dv_digits_of T hgd hr).2) (sv_digits_of (K := K)).2 (by decide) hlen h
def sv_number_of : {tf : TS × ATS // SS K tf.1 tf.2} := pk (ss_cons (ss_asg (se_int (i := 0)) (sg_name (i := 2)))
    (ss_cons (ss_for (si_seq (se_var (i := 0))) (sg_name (i := 3)) (ss_asg (se_op so_add (se_op so_mul (se_var (i := 2)) (se_var (i := 1))) (se_var (i := 3))) (sg_name (i := 2))))
    (ss_ret (se_var (i := 2)))))
theorem oa_number_of {P : Program} {w : World} {mg : Str → Option Value} {base : Heap} (T : Txt mg) {f : Addr} {fd : FuncData} (F : Fun K "number_of" "number_of" st_number_of f fd) {asp : AL} (hlen : ∀ vs S R, asp vs S R → vs.length = 2)
    (h : ∀ vs S R, asp vs S R → (sv_number_of (K := K)).1.2 { nx := fun _ S => R .non S, rt := R } (startA ["letters", "size", "found", "letter"] vs) S) : FnG P w K mg base CX0 1 f fd ["letters", "size"] (cSp K asp) :=
  okA F sc_number_of (fun cdv A outer s H E hgd hr => (dv_number_of T hgd hr).2) (sv_number_of (K := K)).2 (by decide) hlen h
def sv_node_of {asp_base_of : AL} {asp_digits_of : AL} {asp_next_turn : AL} : {tf : TS × ATS // SS K tf.1 tf.2} := pk (ss_cons (ss_if (st_test (se_op so_eq (se_var (i := 2)) (se_int (i := 0)))) (ss_ret se_non) ss_nil)
    (ss_cons (ss_asg (se_cb sl_divmod (sa_cons (se_op so_sub (se_var (i := 2)) (se_int (i := 1))) (sa_cons (se_call (g := asp_base_of) (sa_cons (se_var (i := 0)) (sa_cons (se_var (i := 1)) sa_nil))) sa_nil))) (sg_tup (n := 2) (sgs_cons (sg_name (i := 4)) (sgs_cons (sg_name (i := 5)) sgs_nil))))
    (ss_cons (ss_if (st_test (se_op so_gt (se_var (i := 4)) (se_cb sl_len (sa_cons (se_var (i := 3)) sa_nil)))) (ss_ret se_non) ss_nil)
    (ss_cons (ss_asg (se_join (se_if (st_test (se_op so_eq (se_var (i := 4)) (se_int (i := 0)))) (se_tup sa_nil) (se_op so_ix (se_var (i := 3)) (se_op so_sub (se_var (i := 4)) (se_int (i := 1)))))) (sg_name (i := 6)))
    (ss_cons (ss_asg (se_join (se_if (st_test (se_op so_is (se_var (i := 6)) se_non)) se_non (se_call (g := asp_next_turn) (sa_cons (se_var (i := 0)) (sa_cons (se_var (i := 1)) (sa_cons (se_cb sl_len (sa_cons (se_var (i := 6)) sa_nil)) sa_nil)))))) (sg_name (i := 7)))
    (ss_cons (ss_if (st_test (se_op so_is (se_var (i := 7)) se_non)) (ss_ret se_non) ss_nil)
    (ss_cons (ss_asg (se_call (g := asp_digits_of) (sa_cons (se_var (i := 5)) (sa_cons (se_op so_ix (se_var (i := 0)) (se_int (i := 0))) (sa_cons (se_op so_sub (se_op so_add (se_var (i := 7)) (se_int (i := 1))) (se_cb sl_len (sa_cons (se_var (i := 6)) sa_nil))) sa_nil)))) (sg_name (i := 8)))
    (ss_ret (se_if (st_test (se_op so_is (se_var (i := 8)) se_non)) se_non (se_tup (sa_star (se_var (i := 6)) (sa_star (se_var (i := 8)) sa_nil))))))))))))
theorem oa_node_of {P : Program} {w : World} {mg : Str → Option Value} {base : Heap} (T : Txt mg) {asp_base_of : AL} {asp_digits_of : AL} {asp_next_turn : AL} (cg_base_of : Cg P w K mg base CX0 2 "base_of" (cSp K asp_base_of)) (cg_digits_of : Cg P w K mg base CX0 1 "digits_of" (cSp K asp_digits_of)) (cg_next_turn : Cg P w K mg base CX0 1 "next_turn" (cSp K asp_next_turn)) {f : Addr} {fd : FuncData} (F : Fun K "node_of" "node_of" st_node_of f fd) {asp : AL} (hlen : ∀ vs S R, asp vs S R → vs.length = 4)
    (h : ∀ vs S R, asp vs S R → (sv_node_of (K := K) (asp_base_of := asp_base_of) (asp_digits_of := asp_digits_of) (asp_next_turn := asp_next_turn)).1.2 { nx := fun _ S => R .non S, rt := R } (startA ["talk", "station", "symbol", "nodes", "pointer", "number", "start", "turn", "letters"] vs) S) : FnG P w K mg base CX0 3 f fd ["talk", "station", "symbol", "nodes"] (cSp K asp) :=
  okA F sc_node_of (fun cdv A outer s H E hgd hr => (dv_node_of T cg_base_of cg_digits_of cg_next_turn hgd hr).2) (sv_node_of (K := K) (asp_base_of := asp_base_of) (asp_digits_of := asp_digits_of) (asp_next_turn := asp_next_turn)).2 (by decide) hlen h
def sv_denoted {asp_node_of : AL} : {tf : TS × ATS // SS K tf.1 tf.2} := pk (ss_cons (ss_asg (se_tup sa_nil) (sg_name (i := 3)))
    (ss_cons (ss_for (si_seq (se_var (i := 2))) (sg_name (i := 4)) (ss_asg (se_tup (sa_star (se_var (i := 3)) (sa_cons (se_call (g := asp_node_of) (sa_cons (se_var (i := 0)) (sa_cons (se_var (i := 1)) (sa_cons (se_var (i := 4)) (sa_cons (se_var (i := 3)) sa_nil))))) sa_nil))) (sg_name (i := 3))))
    (ss_ret (se_var (i := 3)))))
theorem oa_denoted {P : Program} {w : World} {mg : Str → Option Value} {base : Heap} (T : Txt mg) {asp_node_of : AL} (cg_node_of : Cg P w K mg base CX0 3 "node_of" (cSp K asp_node_of)) {f : Addr} {fd : FuncData} (F : Fun K "denoted" "denoted" st_denoted f fd) {asp : AL} (hlen : ∀ vs S R, asp vs S R → vs.length = 3)
    (h : ∀ vs S R, asp vs S R → (sv_denoted (K := K) (asp_node_of := asp_node_of)).1.2 { nx := fun _ S => R .non S, rt := R } (startA ["talk", "station", "symbols", "nodes", "symbol"] vs) S) : FnG P w K mg base CX0 4 f fd ["talk", "station", "symbols"] (cSp K asp) :=
  okA F sc_denoted (fun cdv A outer s H E hgd hr => (dv_denoted T cg_node_of hgd hr).2) (sv_denoted (K := K) (asp_node_of := asp_node_of)).2 (by decide) hlen h
def sv_announced {asp_base_of : AL} {asp_denoted : AL} {asp_number_of : AL} {asp_previous_turn : AL} : {tf : TS × ATS // SS K tf.1 tf.2} := pk (ss_cons (ss_asg (se_call (g := asp_previous_turn) (sa_cons (se_var (i := 0)) (sa_cons (se_var (i := 1)) (sa_cons (se_op so_sub (se_cb sl_len (sa_cons (se_var (i := 3)) sa_nil)) (se_int (i := 1))) sa_nil)))) (sg_name (i := 4)))
    (ss_cons (ss_asg (se_join (se_if (st_test (se_op so_is (se_var (i := 4)) se_non)) (se_tup sa_nil) (se_sl sl_any (se_var (i := 3)) sp_no (sp_part (se_op so_add (se_var (i := 4)) (se_int (i := 1))))))) (sg_name (i := 5)))
    (ss_cons (ss_asg (se_join (se_if (st_test (se_op so_is (se_var (i := 4)) se_non)) (se_int (i := 0)) (se_op so_add (se_int (i := 1)) (se_bmT sm_indexT (se_call (g := asp_denoted) (sa_cons (se_var (i := 0)) (sa_cons (se_var (i := 1)) (sa_cons (se_var (i := 2)) sa_nil)))) (sa_cons (se_var (i := 5)) sa_nil))))) (sg_name (i := 6)))
    (ss_ret (se_op so_add (se_op so_add (se_int (i := 1)) (se_op so_mul (se_var (i := 6)) (se_call (g := asp_base_of) (sa_cons (se_var (i := 0)) (sa_cons (se_var (i := 1)) sa_nil))))) (se_call (g := asp_number_of) (sa_cons (se_sl sl_any (se_var (i := 3)) (sp_part (se_cb sl_len (sa_cons (se_var (i := 5)) sa_nil))) sp_no) (sa_cons (se_op so_ix (se_var (i := 0)) (se_int (i := 0))) sa_nil))))))))
theorem oa_announced {P : Program} {w : World} {mg : Str → Option Value} {base : Heap} (T : Txt mg) {asp_base_of : AL} {asp_denoted : AL} {asp_number_of : AL} {asp_previous_turn : AL} (cg_base_of : Cg P w K mg base CX0 2 "base_of" (cSp K asp_base_of)) (cg_denoted : Cg P w K mg base CX0 4 "denoted" (cSp K asp_denoted)) (cg_number_of : Cg P w K mg base CX0 1 "number_of" (cSp K asp_number_of)) (cg_previous_turn : Cg P w K mg base CX0 1 "previous_turn" (cSp K asp_previous_turn)) {f : Addr} {fd : FuncData} (F : Fun K "announced" "announced" st_announced f fd) {asp : AL} (hlen : ∀ vs S R, asp vs S R → vs.length = 4)
    (h : ∀ vs S R, asp vs S R → (sv_announced (K := K) (asp_base_of := asp_base_of) (asp_denoted := asp_denoted) (asp_number_of := asp_number_of) (asp_previous_turn := asp_previous_turn)).1.2 { nx := fun _ S => R .non S, rt := R } (startA ["talk", "station", "symbols", "node", "turn", "start", "pointer"] vs) S) : FnG P w K mg base CX0 5 f fd ["talk", "station", "symbols", "node"] (cSp K asp) :=
  okA F sc_announced (fun cdv A outer s H E hgd hr => (dv_announced T cg_base_of cg_denoted cg_number_of cg_previous_turn hgd hr).2) (sv_announced (K := K) (asp_base_of := asp_base_of) (asp_denoted := asp_denoted) (asp_number_of := asp_number_of) (asp_previous_turn := asp_previous_turn)).2 (by decide) hlen h
def sv__law_deck : {tf : TS × ATS // SS K tf.1 tf.2} := pk (ss_cons (ss_par (i := 1) (j := 2) (sa_cons (se_cb sl_list (sa_cons (se_sl sl_any (se_var (i := 0)) sp_no (sp_part (se_int (i := 63)))) sa_nil)) (sa_cons (se_int (i := 71039)) sa_nil)))
    (ss_cons (ss_for (si_seq (se_var (i := 1))) (sg_name (i := 3)) (ss_asg (se_op so_mod (se_op so_add (se_op so_add (se_op so_mul (se_var (i := 2)) (se_int (i := 48271))) (se_op so_mod (se_var (i := 3)) (se_int (i := 2147483629)))) (se_int (i := 23))) (se_int (i := 2147483587))) (sg_name (i := 2))))
    (ss_ret (se_lstO (sa_cons (se_revO (se_var (i := 1))) (sa_cons (se_var (i := 2)) (sa_cons (se_int (i := 0)) sa_nil)))))))
theorem oa__law_deck {P : Program} {w : World} {mg : Str → Option Value} {base : Heap} (T : Txt mg) {f : Addr} {fd : FuncData} (F : Fun K "_law_deck" "_law_deck" st__law_deck f fd) {asp : AL} (hlen : ∀ vs S R, asp vs S R → vs.length = 1)
    (h : ∀ vs S R, asp vs S R → (sv__law_deck (K := K)).1.2 { nx := fun _ S => R .non S, rt := R } (startA ["_law_script", "_law_cells", "_law_mixed", "_law_cell"] vs) S) : FnG P w K mg base CX0 1 f fd ["_law_script"] (cSp K asp) :=
  okA F sc__law_deck (fun cdv A outer s H E hgd hr => (dv__law_deck T hgd hr).2) (sv__law_deck (K := K)).2 (by decide) hlen h
def sv__law_draw : {tf : TS × ATS // SS K tf.1 tf.2} := pk (ss_cons (ss_asg (se_op so_add (se_op so_ix (se_var (i := 0)) (se_int (i := 2))) (se_int (i := 1))) (sg_sub (se_var (i := 0)) (se_int (i := 2))))
    (ss_cons (ss_asg (se_op so_ix (se_var (i := 0)) (se_int (i := 1))) (sg_name (i := 2)))
    (ss_join (ss_if (st_test (se_op so_ne (se_op so_ix (se_var (i := 0)) (se_int (i := 0))) (se_lst sa_nil))) (ss_cons (ss_asg (se_bm0 sm_pop (se_op so_ix (se_var (i := 0)) (se_int (i := 0)))) (sg_name (i := 2)))
    (ss_cons (ss_if (st_test (se_op so_ge (se_var (i := 2)) (se_op so_pow (se_int (i := 10)) (se_int (i := 18))))) (ss_cons (ss_expr (se_bm sm_append (se_op so_ix (se_var (i := 0)) (se_int (i := 0))) (sa_cons (se_op so_fdiv (se_var (i := 2)) (se_var (i := 1))) sa_nil)))
    (ss_ret (se_op so_mod (se_var (i := 2)) (se_var (i := 1))))) ss_nil)
    (ss_asg (se_op so_add (se_var (i := 2)) (se_op so_ix (se_var (i := 0)) (se_int (i := 1)))) (sg_name (i := 2))))) ss_nil)
    (ss_cons (ss_asg (se_op so_mod (se_op so_mul (se_op so_add (se_op so_add (se_op so_mod (se_var (i := 2)) (se_int (i := 2147483629))) (se_op so_mul (se_op so_mul (se_int (i := 86243)) (se_op so_ix (se_var (i := 0)) (se_int (i := 2)))) (se_op so_ix (se_var (i := 0)) (se_int (i := 2))))) (se_int (i := 31))) (se_int (i := 39373))) (se_int (i := 2147483647))) (sg_name (i := 3)))
    (ss_cons (ss_asg (se_op so_mod (se_op so_add (se_op so_add (se_op so_mul (se_var (i := 3)) (se_var (i := 3))) (se_op so_mul (se_int (i := 69621)) (se_op so_ix (se_var (i := 0)) (se_int (i := 2))))) (se_int (i := 11))) (se_int (i := 2147483587))) (sg_name (i := 3)))
    (ss_ret (se_op so_mod (se_op so_fdiv (se_op so_mod (se_op so_mul (se_var (i := 3)) (se_op so_add (se_op so_fdiv (se_var (i := 3)) (se_int (i := 11))) (se_int (i := 40692)))) (se_int (i := 2147483563))) (se_int (i := 64))) (se_var (i := 1)))))))))
theorem oa__law_draw {P : Program} {w : World} {mg : Str → Option Value} {base : Heap} (T : Txt mg) {f : Addr} {fd : FuncData} (F : Fun K "_law_draw" "_law_draw" st__law_draw f fd) {asp : AL} (hlen : ∀ vs S R, asp vs S R → vs.length = 2)
    (h : ∀ vs S R, asp vs S R → (sv__law_draw (K := K)).1.2 { nx := fun _ S => R .non S, rt := R } (startA ["_law_deck_here", "_law_many", "_law_cell", "_law_number"] vs) S) : FnG P w K mg base CX0 1 f fd ["_law_deck_here", "_law_many"] (cSp K asp) :=
  okA F sc__law_draw (fun cdv A outer s H E hgd hr => (dv__law_draw T hgd hr).2) (sv__law_draw (K := K)).2 (by decide) hlen h
def sv__law_pick {asp__law_draw : AL} : {tf : TS × ATS // SS K tf.1 tf.2} := pk (ss_ret (se_op so_ix (se_var (i := 1)) (se_call (g := asp__law_draw) (sa_cons (se_var (i := 0)) (sa_cons (se_cb sl_len (sa_cons (se_var (i := 1)) sa_nil)) sa_nil)))))
theorem oa__law_pick {P : Program} {w : World} {mg : Str → Option Value} {base : Heap} (T : Txt mg) {asp__law_draw : AL} (cg__law_draw : Cg P w K mg base CX0 1 "_law_draw" (cSp K asp__law_draw)) {f : Addr} {fd : FuncData} (F : Fun K "_law_pick" "_law_pick" st__law_pick f fd) {asp : AL} (hlen : ∀ vs S R, asp vs S R → vs.length = 2)
    (h : ∀ vs S R, asp vs S R → (sv__law_pick (K := K) (asp__law_draw := asp__law_draw)).1.2 { nx := fun _ S => R .non S, rt := R } (startA ["_law_deck_here", "_law_some"] vs) S) : FnG P w K mg base CX0 2 f fd ["_law_deck_here", "_law_some"] (cSp K asp) :=
  okA F sc__law_pick (fun cdv A outer s H E hgd hr => (dv__law_pick T cg__law_draw hgd hr).2) (sv__law_pick (K := K) (asp__law_draw := asp__law_draw)).2 (by decide) hlen h
def sv__law_order {asp__law_draw : AL} : {tf : TS × ATS // SS K tf.1 tf.2} := pk (ss_cons (ss_asg (se_tup (sa_cons (se_call (g := asp__law_draw) (sa_cons (se_var (i := 0)) (sa_cons (se_int (i := 5)) sa_nil))) (sa_cons (se_call (g := asp__law_draw) (sa_cons (se_var (i := 0)) (sa_cons (se_op so_add (se_var (i := 2)) (se_int (i := 1))) sa_nil))) (sa_cons (se_call (g := asp__law_draw) (sa_cons (se_var (i := 0)) (sa_cons (se_var (i := 1)) sa_nil))) sa_nil)))) (sg_tup (n := 3) (sgs_cons (sg_name (i := 3)) (sgs_cons (sg_name (i := 4)) (sgs_cons (sg_name (i := 5)) sgs_nil)))))
    (ss_cons (ss_if (st_test (se_op so_eq (se_var (i := 3)) (se_int (i := 0)))) (ss_ret (se_op so_mul (se_tup (sa_cons (se_var (i := 5)) sa_nil)) (se_var (i := 4)))) ss_nil)
    (ss_cons (ss_if (st_test (se_op so_lt (se_var (i := 3)) (se_int (i := 3)))) (ss_ret (se_cb sl_tuple (sa_cons (se_lc (vs := [6]) (si_rng1 (sa_cons (se_var (i := 4)) sa_nil)) (sg_name (i := 6)) (by decide) st_yes (se_op so_mod (se_op so_add (se_var (i := 5)) (se_op so_fdiv (se_var (i := 6)) (se_var (i := 3)))) (se_var (i := 1)))) sa_nil))) ss_nil)
    (ss_ret (se_cb sl_tuple (sa_cons (se_lc (vs := [6]) (si_rng1 (sa_cons (se_var (i := 4)) sa_nil)) (sg_name (i := 6)) (by decide) st_yes (se_call (g := asp__law_draw) (sa_cons (se_var (i := 0)) (sa_cons (se_var (i := 1)) sa_nil)))) sa_nil))))))
theorem oa__law_order {P : Program} {w : World} {mg : Str → Option Value} {base : Heap} (T : Txt mg) {asp__law_draw : AL} (cg__law_draw : Cg P w K mg base CX0 1 "_law_draw" (cSp K asp__law_draw)) {f : Addr} {fd : FuncData} (F : Fun K "_law_order" "_law_order" st__law_order f fd) {asp : AL} (hlen : ∀ vs S R, asp vs S R → vs.length = 3)
    (h : ∀ vs S R, asp vs S R → (sv__law_order (K := K) (asp__law_draw := asp__law_draw)).1.2 { nx := fun _ S => R .non S, rt := R } (startA ["_law_deck_here", "_law_stations", "_law_most", "_law_way", "_law_many", "_law_first", "_law_k"] vs) S) : FnG P w K mg base CX0 2 f fd ["_law_deck_here", "_law_stations", "_law_most"] (cSp K asp) :=
  okA F sc__law_order (fun cdv A outer s H E hgd hr => (dv__law_order T cg__law_draw hgd hr).2) (sv__law_order (K := K) (asp__law_draw := asp__law_draw)).2 (by decide) hlen h
def sv__law_power : {tf : TS × ATS // SS K tf.1 tf.2} := pk (ss_cons (ss_asg (se_int (i := 1)) (sg_name (i := 2)))
    (ss_cons (ss_for (si_rng1 (sa_cons (se_var (i := 1)) sa_nil)) (sg_name (i := 3)) (ss_asg (se_op so_mul (se_var (i := 2)) (se_var (i := 0))) (sg_name (i := 2))))
    (ss_ret (se_var (i := 2)))))
theorem oa__law_power {P : Program} {w : World} {mg : Str → Option Value} {base : Heap} (T : Txt mg) {f : Addr} {fd : FuncData} (F : Fun K "_law_power" "_law_power" st__law_power f fd) {asp : AL} (hlen : ∀ vs S R, asp vs S R → vs.length = 2)
    (h : ∀ vs S R, asp vs S R → (sv__law_power (K := K)).1.2 { nx := fun _ S => R .non S, rt := R } (startA ["_law_size", "_law_many", "_law_found", "_law_k"] vs) S) : FnG P w K mg base CX0 1 f fd ["_law_size", "_law_many"] (cSp K asp) :=
  okA F sc__law_power (fun cdv A outer s H E hgd hr => (dv__law_power T hgd hr).2) (sv__law_power (K := K)).2 (by decide) hlen h
def sv__law_base {asp__law_power : AL} : {tf : TS × ATS // SS K tf.1 tf.2} := pk (ss_cons (ss_asg (se_lc (vs := [4, 5]) (si_enum (sa_cons (se_var (i := 1)) sa_nil)) (sg_tup (n := 2) (sgs_cons (sg_name (i := 4)) (sgs_cons (sg_name (i := 5)) sgs_nil))) (by decide) (st_test (se_op so_eq (se_var (i := 5)) (se_var (i := 2)))) (se_op so_add (se_var (i := 4)) (se_int (i := 1)))) (sg_name (i := 3)))
    (ss_ret (se_call (g := asp__law_power) (sa_cons (se_var (i := 0)) (sa_cons (se_cb sl_max (sa_cons (se_op so_add (se_lst (sa_cons (se_int (i := 0)) sa_nil)) (se_lc (vs := [6, 7]) (si_zip (sa_cons (se_op so_add (se_lst (sa_cons (se_int (i := 0)) sa_nil)) (se_var (i := 3))) (sa_cons (se_var (i := 3)) sa_nil))) (sg_tup (n := 2) (sgs_cons (sg_name (i := 6)) (sgs_cons (sg_name (i := 7)) sgs_nil))) (by decide) st_yes (se_op so_sub (se_var (i := 7)) (se_var (i := 6))))) sa_nil)) sa_nil)))))
theorem oa__law_base {P : Program} {w : World} {mg : Str → Option Value} {base : Heap} (T : Txt mg) {asp__law_power : AL} (cg__law_power : Cg P w K mg base CX0 1 "_law_power" (cSp K asp__law_power)) {f : Addr} {fd : FuncData} (F : Fun K "_law_base" "_law_base" st__law_base f fd) {asp : AL} (hlen : ∀ vs S R, asp vs S R → vs.length = 3)
    (h : ∀ vs S R, asp vs S R → (sv__law_base (K := K) (asp__law_power := asp__law_power)).1.2 { nx := fun _ S => R .non S, rt := R } (startA ["_law_size", "_law_order_here", "_law_who", "_law_ends", "_law_k", "_law_speaker", "_law_start", "_law_end"] vs) S) : FnG P w K mg base CX0 2 f fd ["_law_size", "_law_order_here", "_law_who"] (cSp K asp) :=
  okA F sc__law_base (fun cdv A outer s H E hgd hr => (dv__law_base T cg__law_power hgd hr).2) (sv__law_base (K := K) (asp__law_power := asp__law_power)).2 (by decide) hlen h
def sv__law_node {asp__law_base : AL} {asp__law_power : AL} : {tf : TS × ATS // SS K tf.1 tf.2} := pk (ss_cons (ss_asg (se_call (g := asp__law_base) (sa_cons (se_var (i := 0)) (sa_cons (se_var (i := 1)) (sa_cons (se_var (i := 2)) sa_nil)))) (sg_name (i := 5)))
    (ss_cons (ss_par (i := 6) (j := 7) (sa_cons (se_op so_fdiv (se_op so_sub (se_var (i := 3)) (se_int (i := 1))) (se_var (i := 5))) (sa_cons (se_op so_mod (se_op so_sub (se_var (i := 3)) (se_int (i := 1))) (se_var (i := 5))) sa_nil)))
    (ss_cons (ss_asg (se_join (se_if (st_and (st_test (se_op so_gt (se_var (i := 3)) (se_int (i := 0)))) (st_test (se_op so_le (se_var (i := 6)) (se_cb sl_len (sa_cons (se_var (i := 4)) sa_nil))))) (se_op so_ix (se_op so_add (se_lst (sa_cons (se_tup sa_nil) sa_nil)) (se_var (i := 4))) (se_var (i := 6))) se_non)) (sg_name (i := 8)))
    (ss_cons (ss_if (st_test (se_op so_is (se_var (i := 8)) se_non)) (ss_ret se_non) ss_nil)
    (ss_cons (ss_asg (se_lc (vs := [9]) (si_rng2 (sa_cons (se_cb sl_len (sa_cons (se_var (i := 8)) sa_nil)) (sa_cons (se_cb sl_len (sa_cons (se_var (i := 1)) sa_nil)) sa_nil))) (sg_name (i := 9)) (by decide) (st_test (se_op so_eq (se_op so_ix (se_var (i := 1)) (se_var (i := 9))) (se_var (i := 2)))) (se_var (i := 9))) (sg_name (i := 10)))
    (ss_cons (ss_if (st_test (se_op so_eq (se_var (i := 10)) (se_lst sa_nil))) (ss_ret se_non) ss_nil)
    (ss_cons (ss_par (i := 11) (j := 12) (sa_cons (se_tup sa_nil) (sa_cons (se_call (g := asp__law_power) (sa_cons (se_var (i := 0)) (sa_cons (se_op so_sub (se_op so_ix (se_var (i := 10)) (se_int (i := 0))) (se_cb sl_len (sa_cons (se_var (i := 8)) sa_nil))) sa_nil))) sa_nil)))
    (ss_cons (ss_for (si_rng1 (sa_cons (se_op so_sub (se_op so_add (se_op so_ix (se_var (i := 10)) (se_int (i := 0))) (se_int (i := 1))) (se_cb sl_len (sa_cons (se_var (i := 8)) sa_nil))) sa_nil)) (sg_name (i := 9)) (ss_cons (ss_asg (se_op so_add (se_var (i := 11)) (se_tup (sa_cons (se_op so_fdiv (se_var (i := 7)) (se_var (i := 12))) sa_nil))) (sg_name (i := 11)))
    (ss_par (i := 7) (j := 12) (sa_cons (se_op so_mod (se_var (i := 7)) (se_var (i := 12))) (sa_cons (se_op so_fdiv (se_var (i := 12)) (se_var (i := 0))) sa_nil)))))
    (ss_ret (se_if (st_test (se_op so_lt (se_op so_ix (se_var (i := 11)) (se_int (i := 0))) (se_var (i := 0)))) (se_op so_add (se_var (i := 8)) (se_var (i := 11))) se_non))))))))))
theorem oa__law_node {P : Program} {w : World} {mg : Str → Option Value} {base : Heap} (T : Txt mg) {asp__law_base : AL} {asp__law_power : AL} (cg__law_base : Cg P w K mg base CX0 2 "_law_base" (cSp K asp__law_base)) (cg__law_power : Cg P w K mg base CX0 1 "_law_power" (cSp K asp__law_power)) {f : Addr} {fd : FuncData} (F : Fun K "_law_node" "_law_node" st__law_node f fd) {asp : AL} (hlen : ∀ vs S R, asp vs S R → vs.length = 5)
    (h : ∀ vs S R, asp vs S R → (sv__law_node (K := K) (asp__law_base := asp__law_base) (asp__law_power := asp__law_power)).1.2 { nx := fun _ S => R .non S, rt := R } (startA ["_law_size", "_law_order_here", "_law_who", "_law_symbol", "_law_before", "_law_base_here", "_law_point", "_law_rest", "_law_start", "_law_k", "_law_later", "_law_letters", "_law_place"] vs) S) : FnG P w K mg base CX0 3 f fd ["_law_size", "_law_order_here", "_law_who", "_law_symbol", "_law_before"] (cSp K asp) :=
  okA F sc__law_node (fun cdv A outer s H E hgd hr => (dv__law_node T cg__law_base cg__law_power hgd hr).2) (sv__law_node (K := K) (asp__law_base := asp__law_base) (asp__law_power := asp__law_power)).2 (by decide) hlen h
def sv__law_nodes {asp__law_node : AL} : {tf : TS × ATS // SS K tf.1 tf.2} := pk (ss_cons (ss_asg (se_lstO sa_nil) (sg_name (i := 4)))
    (ss_cons (ss_for (si_seq (se_var (i := 3))) (sg_name (i := 5)) (ss_expr (se_bm sm_append (se_var (i := 4)) (sa_cons (se_call (g := asp__law_node) (sa_cons (se_var (i := 0)) (sa_cons (se_var (i := 1)) (sa_cons (se_var (i := 2)) (sa_cons (se_var (i := 5)) (sa_cons (se_var (i := 4)) sa_nil)))))) sa_nil))))
    (ss_ret (se_var (i := 4)))))
theorem oa__law_nodes {P : Program} {w : World} {mg : Str → Option Value} {base : Heap} (T : Txt mg) {asp__law_node : AL} (cg__law_node : Cg P w K mg base CX0 3 "_law_node" (cSp K asp__law_node)) {f : Addr} {fd : FuncData} (F : Fun K "_law_nodes" "_law_nodes" st__law_nodes f fd) {asp : AL} (hlen : ∀ vs S R, asp vs S R → vs.length = 4)
    (h : ∀ vs S R, asp vs S R → (sv__law_nodes (K := K) (asp__law_node := asp__law_node)).1.2 { nx := fun _ S => R .non S, rt := R } (startA ["_law_size", "_law_order_here", "_law_who", "_law_marks", "_law_found", "_law_symbol"] vs) S) : FnG P w K mg base CX0 4 f fd ["_law_size", "_law_order_here", "_law_who", "_law_marks"] (cSp K asp) :=
  okA F sc__law_nodes (fun cdv A outer s H E hgd hr => (dv__law_nodes T cg__law_node hgd hr).2) (sv__law_nodes (K := K) (asp__law_node := asp__law_node)).2 (by decide) hlen h
def sv__law_announced {asp__law_base : AL} : {tf : TS × ATS // SS K tf.1 tf.2} := pk (ss_cons (ss_asg (se_lc (vs := [10]) (si_rng1 (sa_cons (se_op so_sub (se_cb sl_len (sa_cons (se_var (i := 4)) sa_nil)) (se_int (i := 1))) sa_nil)) (sg_name (i := 10)) (by decide) (st_test (se_op so_eq (se_op so_ix (se_var (i := 1)) (se_var (i := 10))) (se_var (i := 2)))) (se_var (i := 10))) (sg_name (i := 5)))
    (ss_cons (ss_asg (se_join (se_if (st_test (se_op so_ne (se_var (i := 5)) (se_lst sa_nil))) (se_sl sl_any (se_var (i := 4)) sp_no (sp_part (se_op so_add (se_op so_ix (se_var (i := 5)) (se_un s1_neg1 (se_int (i := 1)))) (se_int (i := 1))))) (se_tup sa_nil))) (sg_name (i := 6)))
    (ss_cons (ss_if (st_and (st_test (se_op so_ne (se_var (i := 5)) (se_lst sa_nil))) (st_test (se_op so_notIn (se_var (i := 6)) (se_var (i := 3))))) (ss_ret se_non) ss_nil)
    (ss_cons (ss_asg (se_int (i := 0)) (sg_name (i := 7)))
    (ss_cons (ss_for (si_seq (se_sl sl_any (se_var (i := 4)) (sp_part (se_cb sl_len (sa_cons (se_var (i := 6)) sa_nil))) sp_no)) (sg_name (i := 8)) (ss_asg (se_op so_add (se_op so_mul (se_var (i := 7)) (se_var (i := 0))) (se_var (i := 8))) (sg_name (i := 7))))
    (ss_cons (ss_asg (se_bm sm_indexL (se_op so_add (se_lst (sa_cons (se_tup sa_nil) sa_nil)) (se_var (i := 3))) (sa_cons (se_var (i := 6)) sa_nil)) (sg_name (i := 9)))
    (ss_ret (se_op so_add (se_op so_add (se_int (i := 1)) (se_op so_mul (se_var (i := 9)) (se_call (g := asp__law_base) (sa_cons (se_var (i := 0)) (sa_cons (se_var (i := 1)) (sa_cons (se_var (i := 2)) sa_nil)))))) (se_var (i := 7))))))))))
theorem oa__law_announced {P : Program} {w : World} {mg : Str → Option Value} {base : Heap} (T : Txt mg) {asp__law_base : AL} (cg__law_base : Cg P w K mg base CX0 2 "_law_base" (cSp K asp__law_base)) {f : Addr} {fd : FuncData} (F : Fun K "_law_announced" "_law_announced" st__law_announced f fd) {asp : AL} (hlen : ∀ vs S R, asp vs S R → vs.length = 5)
    (h : ∀ vs S R, asp vs S R → (sv__law_announced (K := K) (asp__law_base := asp__law_base)).1.2 { nx := fun _ S => R .non S, rt := R } (startA ["_law_size", "_law_order_here", "_law_who", "_law_nodes_here", "_law_goal", "_law_turns", "_law_start", "_law_number", "_law_letter", "_law_point", "_law_k"] vs) S) : FnG P w K mg base CX0 3 f fd ["_law_size", "_law_order_here", "_law_who", "_law_nodes_here", "_law_goal"] (cSp K asp) :=
  okA F sc__law_announced (fun cdv A outer s H E hgd hr => (dv__law_announced T cg__law_base hgd hr).2) (sv__law_announced (K := K) (asp__law_base := asp__law_base)).2 (by decide) hlen h
def sv__law_noise {asp__law_base : AL} {asp__law_draw : AL} {asp__law_pick : AL} : {tf : TS × ATS // SS K tf.1 tf.2} := pk (ss_cons (ss_asg (se_call (g := asp__law_base) (sa_cons (se_var (i := 1)) (sa_cons (se_var (i := 2)) (sa_cons (se_var (i := 3)) sa_nil)))) (sg_name (i := 5)))
    (ss_for (si_rng1 (sa_cons (se_call (g := asp__law_draw) (sa_cons (se_var (i := 0)) (sa_cons (se_int (i := 3)) sa_nil))) sa_nil)) (sg_name (i := 6)) (ss_cons (ss_asg (se_call (g := asp__law_draw) (sa_cons (se_var (i := 0)) (sa_cons (se_int (i := 4)) sa_nil))) (sg_name (i := 7)))
    (ss_cons (ss_asg (se_op so_add (se_lst (sa_cons (se_int (i := 0)) sa_nil)) (se_var (i := 4))) (sg_name (i := 8)))
    (ss_if (st_test (se_op so_lt (se_var (i := 7)) (se_int (i := 2)))) (ss_expr (se_bm sm_append (se_var (i := 4)) (sa_cons (se_call (g := asp__law_pick) (sa_cons (se_var (i := 0)) (sa_cons (se_var (i := 8)) sa_nil))) sa_nil))) (ss_cons (ss_asg (se_op so_mul (se_call (g := asp__law_draw) (sa_cons (se_var (i := 0)) (sa_cons (se_op so_add (se_cb sl_len (sa_cons (se_var (i := 8)) sa_nil)) (se_var (i := 7))) sa_nil))) (se_cb sl_int (sa_cons (se_op so_gt (se_bmT sm_count (se_var (i := 2)) (sa_cons (se_var (i := 3)) sa_nil)) (se_int (i := 1))) sa_nil))) (sg_name (i := 9)))
    (ss_expr (se_bm sm_append (se_var (i := 4)) (sa_cons (se_op so_add (se_op so_add (se_int (i := 1)) (se_op so_mul (se_var (i := 9)) (se_var (i := 5)))) (se_call (g := asp__law_draw) (sa_cons (se_var (i := 0)) (sa_cons (se_var (i := 5)) sa_nil)))) sa_nil)))))))))
theorem oa__law_noise {P : Program} {w : World} {mg : Str → Option Value} {base : Heap} (T : Txt mg) {asp__law_base : AL} {asp__law_draw : AL} {asp__law_pick : AL} (cg__law_base : Cg P w K mg base CX0 2 "_law_base" (cSp K asp__law_base)) (cg__law_draw : Cg P w K mg base CX0 1 "_law_draw" (cSp K asp__law_draw)) (cg__law_pick : Cg P w K mg base CX0 2 "_law_pick" (cSp K asp__law_pick)) {f : Addr} {fd : FuncData} (F : Fun K "_law_noise" "_law_noise" st__law_noise f fd) {asp : AL} (hlen : ∀ vs S R, asp vs S R → vs.length = 5)
    (h : ∀ vs S R, asp vs S R → (sv__law_noise (K := K) (asp__law_base := asp__law_base) (asp__law_draw := asp__law_draw) (asp__law_pick := asp__law_pick)).1.2 { nx := fun _ S => R .non S, rt := R } (startA ["_law_deck_here", "_law_size", "_law_order_here", "_law_who", "_law_marks", "_law_base_here", "_law_k", "_law_way", "_law_here", "_law_point"] vs) S) : FnG P w K mg base CX0 3 f fd ["_law_deck_here", "_law_size", "_law_order_here", "_law_who", "_law_marks"] (cSp K asp) :=
  okA F sc__law_noise (fun cdv A outer s H E hgd hr => (dv__law_noise T cg__law_base cg__law_draw cg__law_pick hgd hr).2) (sv__law_noise (K := K) (asp__law_base := asp__law_base) (asp__law_draw := asp__law_draw) (asp__law_pick := asp__law_pick)).2 (by decide) hlen h
def sv__law_path_right {asp__law_announced : AL} {asp__law_draw : AL} {asp__law_nodes : AL} {asp__law_noise : AL} {asp_announced : AL} {asp_denoted : AL} {asp_width : AL} {ask_announced : AL} : {tf : TS × ATS // SS K tf.1 tf.2} := pk (ss_cons (ss_asg (se_tup (sa_cons (se_op so_ix (se_var (i := 1)) (se_int (i := 0))) (sa_cons (se_op so_ix (se_var (i := 1)) (se_int (i := 2))) sa_nil))) (sg_tup (n := 2) (sgs_cons (sg_name (i := 4)) (sgs_cons (sg_name (i := 5)) sgs_nil))))
    (ss_cons (ss_par (i := 7) (j := 8) (sa_cons (se_cb sl_tuple (sa_cons (se_lc (vs := [6]) (si_seq (se_var (i := 5))) (sg_name (i := 6)) (by decide) st_yes (se_call (g := asp__law_draw) (sa_cons (se_var (i := 0)) (sa_cons (se_var (i := 4)) sa_nil)))) sa_nil)) (sa_cons (se_lstO sa_nil) sa_nil)))
    (ss_cons (ss_for (si_seq (se_lc (vs := [15]) (si_rng1 (sa_cons (se_cb sl_len (sa_cons (se_var (i := 5)) sa_nil)) sa_nil)) (sg_name (i := 15)) (by decide) (st_test (se_op so_eq (se_op so_ix (se_var (i := 5)) (se_var (i := 15))) (se_var (i := 3)))) (se_var (i := 15)))) (sg_name (i := 6)) (ss_cons (ss_expr (se_call (g := asp__law_noise) (sa_cons (se_var (i := 0)) (sa_cons (se_var (i := 4)) (sa_cons (se_var (i := 5)) (sa_cons (se_var (i := 3)) (sa_cons (se_var (i := 8)) sa_nil)))))))
    (ss_cons (ss_asg (se_sl sl_any (se_var (i := 7)) sp_no (sp_part (se_op so_add (se_var (i := 6)) (se_int (i := 1))))) (sg_name (i := 9)))
    (ss_cons (ss_asg (se_call (g := asp__law_nodes) (sa_cons (se_var (i := 4)) (sa_cons (se_var (i := 5)) (sa_cons (se_var (i := 3)) (sa_cons (se_var (i := 8)) sa_nil))))) (sg_name (i := 10)))
    (ss_cons (ss_asg (se_call (g := asp__law_announced) (sa_cons (se_var (i := 4)) (sa_cons (se_var (i := 5)) (sa_cons (se_var (i := 3)) (sa_cons (se_var (i := 10)) (sa_cons (se_var (i := 9)) sa_nil)))))) (sg_name (i := 11)))
    (ss_cons (ss_par (i := 12) (j := 13) (sa_cons (se_cb sl_tuple (sa_cons (se_var (i := 8)) sa_nil)) (sa_cons (se_cb sl_reprD (sa_cons (se_tup (sa_cons (se_var (i := 1)) (sa_cons (se_var (i := 8)) sa_nil))) sa_nil)) sa_nil)))
    (ss_cons (ss_asg (se_lst (sa_cons (se_call (g := asp_announced) (sa_cons (se_var (i := 1)) (sa_cons (se_var (i := 3)) (sa_cons (se_var (i := 12)) (sa_cons (se_var (i := 9)) sa_nil))))) (sa_cons (se_call (g := ask_announced) (sa_cons (se_var (i := 9)) (sa_cons (se_var (i := 12)) (sa_cons (se_var (i := 3)) (sa_cons (se_var (i := 2)) sa_nil))))) sa_nil))) (sg_name (i := 14)))
    (ss_cons (ss_if (st_or (st_test (se_op so_ne (se_cb sl_reprD (sa_cons (se_var (i := 14)) sa_nil)) (se_cb sl_reprD (sa_cons (se_lst (sa_cons (se_var (i := 11)) (sa_cons (se_var (i := 11)) sa_nil))) sa_nil)))) (st_test (se_op so_ne (se_cb sl_reprD (sa_cons (se_tup (sa_cons (se_var (i := 1)) (sa_cons (se_cb sl_list (sa_cons (se_var (i := 12)) sa_nil)) sa_nil))) sa_nil)) (se_var (i := 13))))) (ss_ret (se_bl (i := false))) ss_nil)
    (ss_cons (ss_if (st_or (st_test (se_op so_ne (se_op so_ix (se_call (g := asp_denoted) (sa_cons (se_var (i := 1)) (sa_cons (se_var (i := 3)) (sa_cons (se_op so_add (se_var (i := 12)) (se_tup (sa_cons (se_var (i := 11)) sa_nil))) sa_nil)))) (se_un s1_neg1 (se_int (i := 1)))) (se_var (i := 9)))) (st_test (se_op so_ge (se_var (i := 11)) (se_call (g := asp_width) (sa_cons (se_var (i := 1)) (sa_cons (se_var (i := 3)) (sa_cons (se_op so_add (se_cb sl_len (sa_cons (se_var (i := 12)) sa_nil)) (se_int (i := 1))) sa_nil))))))) (ss_ret (se_bl (i := false))) ss_nil)
    (ss_expr (se_bm sm_append (se_var (i := 8)) (sa_cons (se_var (i := 11)) sa_nil))))))))))))
    (ss_ret (se_bl (i := true))))))
theorem oa__law_path_right {P : Program} {w : World} {mg : Str → Option Value} {base : Heap} (T : Txt mg) {asp__law_announced : AL} {asp__law_draw : AL} {asp__law_nodes : AL} {asp__law_noise : AL} {asp_announced : AL} {asp_denoted : AL} {asp_width : AL} {ask_announced : AL} (cg__law_announced : Cg P w K mg base CX0 3 "_law_announced" (cSp K asp__law_announced)) (cg__law_draw : Cg P w K mg base CX0 1 "_law_draw" (cSp K asp__law_draw)) (cg__law_nodes : Cg P w K mg base CX0 4 "_law_nodes" (cSp K asp__law_nodes)) (cg__law_noise : Cg P w K mg base CX0 3 "_law_noise" (cSp K asp__law_noise)) (cg_announced : Cg P w K mg base CX0 5 "announced" (cSp K asp_announced)) (cg_denoted : Cg P w K mg base CX0 4 "denoted" (cSp K asp_denoted)) (cg_width : Cg P w K mg base CX0 3 "width" (cSp K asp_width)) (ck_announced : Cgk P w K mg base CX0 5 "announced" ["node", "symbols", "station", "talk"] (cSp K ask_announced)) {f : Addr} {fd : FuncData} (F : Fun K "_law_path_right" "_law_path_right" st__law_path_right f fd) {asp : AL} (hlen : ∀ vs S R, asp vs S R → vs.length = 4)
    (h : ∀ vs S R, asp vs S R → (sv__law_path_right (K := K) (asp__law_announced := asp__law_announced) (asp__law_draw := asp__law_draw) (asp__law_nodes := asp__law_nodes) (asp__law_noise := asp__law_noise) (asp_announced := asp_announced) (asp_denoted := asp_denoted) (asp_width := asp_width) (ask_announced := ask_announced)).1.2 { nx := fun _ S => R .non S, rt := R } (startA ["_law_deck_here", "_law_plan", "_law_other", "_law_who", "_law_size", "_law_order_here", "_law_turn", "_law_path", "_law_marks", "_law_goal", "_law_before", "_law_due", "_law_row", "_law_kept", "_law_told", "_law_k"] vs) S) : FnG P w K mg base CX0 6 f fd ["_law_deck_here", "_law_plan", "_law_other", "_law_who"] (cSp K asp) :=
  okA F sc__law_path_right (fun cdv A outer s H E hgd hr => (dv__law_path_right T cg__law_announced cg__law_draw cg__law_nodes cg__law_noise cg_announced cg_denoted cg_width ck_announced hgd hr).2) (sv__law_path_right (K := K) (asp__law_announced := asp__law_announced) (asp__law_draw := asp__law_draw) (asp__law_nodes := asp__law_nodes) (asp__law_noise := asp__law_noise) (asp_announced := asp_announced) (asp_denoted := asp_denoted) (asp_width := asp_width) (ask_announced := ask_announced)).2 (by decide) hlen h
def sv_law {asp__law_deck : AL} {asp__law_draw : AL} {asp__law_order : AL} {asp__law_path_right : AL} : {tf : TS × ATS // SS K tf.1 tf.2} := pk (ss_cons (ss_asg (se_call (g := asp__law_deck) (sa_cons (se_var (i := 0)) sa_nil)) (sg_name (i := 1)))
    (ss_cons (ss_for (si_rng1 (sa_cons (se_int (i := 12)) sa_nil)) (sg_name (i := 2)) (ss_cons (ss_par (i := 3) (j := 4) (sa_cons (se_op so_add (se_int (i := 2)) (se_call (g := asp__law_draw) (sa_cons (se_var (i := 1)) (sa_cons (se_int (i := 8)) sa_nil)))) (sa_cons (se_op so_add (se_int (i := 2)) (se_call (g := asp__law_draw) (sa_cons (se_var (i := 1)) (sa_cons (se_int (i := 3)) sa_nil)))) sa_nil)))
    (ss_cons (ss_asg (se_call (g := asp__law_order) (sa_cons (se_var (i := 1)) (sa_cons (se_var (i := 4)) (sa_cons (se_int (i := 8)) sa_nil)))) (sg_name (i := 5)))
    (ss_cons (ss_asg (se_tup (sa_cons (se_var (i := 3)) (sa_cons (se_op so_mul (se_tup (sa_cons (se_tup (sa_cons (se_tup sa_nil) (sa_cons (se_tup sa_nil) (sa_cons (se_int (i := 2)) sa_nil)))) sa_nil)) (se_var (i := 4))) (sa_cons (se_var (i := 5)) sa_nil)))) (sg_name (i := 6)))
    (ss_cons (ss_asg (se_tup (sa_cons (se_var (i := 3)) (sa_cons (se_op so_mul (se_tup (sa_cons (se_tup (sa_cons (se_tup (sa_cons (se_tup (sa_cons (se_str (i := "set")) (sa_cons (se_int (i := 1)) (sa_cons (se_tup (sa_cons (se_str (i := "turn")) sa_nil)) sa_nil)))) sa_nil)) (sa_cons (se_tup sa_nil) (sa_cons (se_tup (sa_cons (se_str (i := "input")) (sa_cons (se_int (i := 3)) sa_nil))) sa_nil)))) sa_nil)) (se_var (i := 4))) (sa_cons (se_var (i := 5)) sa_nil)))) (sg_name (i := 7)))
    (ss_for (si_rng1 (sa_cons (se_var (i := 4)) sa_nil)) (sg_name (i := 8)) (ss_if (st_not (st_truth (se_call (g := asp__law_path_right) (sa_cons (se_var (i := 1)) (sa_cons (se_var (i := 6)) (sa_cons (se_var (i := 7)) (sa_cons (se_var (i := 8)) sa_nil))))))) (ss_ret (se_bl (i := false))) ss_nil)))))))
    (ss_ret (se_bl (i := true)))))
theorem oa_law {P : Program} {w : World} {mg : Str → Option Value} {base : Heap} (T : Txt mg) {asp__law_deck : AL} {asp__law_draw : AL} {asp__law_order : AL} {asp__law_path_right : AL} (cg__law_deck : Cg P w K mg base CX0 1 "_law_deck" (cSp K asp__law_deck)) (cg__law_draw : Cg P w K mg base CX0 1 "_law_draw" (cSp K asp__law_draw)) (cg__law_order : Cg P w K mg base CX0 2 "_law_order" (cSp K asp__law_order)) (cg__law_path_right : Cg P w K mg base CX0 6 "_law_path_right" (cSp K asp__law_path_right)) {f : Addr} {fd : FuncData} (F : Fun K "law" "law" st_law f fd) {asp : AL} (hlen : ∀ vs S R, asp vs S R → vs.length = 1)
    (h : ∀ vs S R, asp vs S R → (sv_law (K := K) (asp__law_deck := asp__law_deck) (asp__law_draw := asp__law_draw) (asp__law_order := asp__law_order) (asp__law_path_right := asp__law_path_right)).1.2 { nx := fun _ S => R .non S, rt := R } (startA ["_law_script", "_law_deck_here", "_law_turn", "_law_size", "_law_stations", "_law_order_here", "_law_plan", "_law_other", "_law_who"] vs) S) : FnG P w K mg base CX0 7 f fd ["_law_script"] (cSp K asp) :=
  okA F sc_law (fun cdv A outer s H E hgd hr => (dv_law T cg__law_deck cg__law_draw cg__law_order cg__law_path_right hgd hr).2) (sv_law (K := K) (asp__law_deck := asp__law_deck) (asp__law_draw := asp__law_draw) (asp__law_order := asp__law_order) (asp__law_path_right := asp__law_path_right)).2 (by decide) hlen h
end
end K11

namespace K10
/-! the numbers -/
def powN (n : Int) : Nat → Int
  | 0 => 1
  | k + 1 => powN n k * n
theorem powN_bound {n : Int} (h0 : 0 ≤ n) (h9 : n ≤ 9) : ∀ k : Nat, k ≤ 8 → 0 ≤ powN n k ∧ powN n k ≤ 9 ^ k := by
  intro k
  induction k with
  | zero => intro _; exact ⟨by show (0 : Int) ≤ 1; decide, by show (1 : Int) ≤ 9 ^ 0; decide⟩
  | succ k ih =>
    intro hk
    obtain ⟨a, b⟩ := ih (by omega)
    refine ⟨Int.mul_nonneg a h0, ?_⟩
    rw [Int.pow_succ]
    exact Int.mul_le_mul b h9 h0 (by exact Int.pow_nonneg (by decide))
theorem pow9 : ∀ k : Nat, k ≤ 8 → (9 : Int) ^ k ≤ 43046721 := by
  intro k hk
  have : k = 0 ∨ k = 1 ∨ k = 2 ∨ k = 3 ∨ k = 4 ∨ k = 5 ∨ k = 6 ∨ k = 7 ∨ k = 8 := by omega
  rcases this with h | h | h | h | h | h | h | h | h <;> subst h <;> decide
/-- the greatest gap and the last turn so far -/
def gapGo (st : Int) : List Int → Int → Int → Int → Int × Int
  | [], _, lg, la => (lg, la)
  | x :: xs, i, lg, la => if x = st then gapGo st xs (i + 1) (if i - la > lg then i - la else lg) i else gapGo st xs (i + 1) lg la
theorem gapGo_cons (st x : Int) (xs : List Int) (i lg la : Int) : gapGo st (x :: xs) i lg la = if x = st then gapGo st xs (i + 1) (if i - la > lg then i - la else lg) i else gapGo st xs (i + 1) lg la := by rw [gapGo]
def gapOf (order : List Int) (st : Int) : Int := (gapGo st order 0 0 (-1)).1
theorem gapGo_bound (st : Int) : ∀ (xs : List Int) (i lg la : Int), 0 ≤ lg → lg ≤ i → -1 ≤ la → la < i → 0 ≤ (gapGo st xs i lg la).1 ∧ (gapGo st xs i lg la).1 ≤ i + xs.length
  | [], i, lg, la, h1, h2, _, _ => ⟨h1, by show lg ≤ i + ((0 : Nat) : Int); omega⟩
  | x :: xs, i, lg, la, h1, h2, h3, h4 => by
    unfold gapGo
    rw [List.length_cons]
    split
    · have := gapGo_bound st xs (i + 1) (if i - la > lg then i - la else lg) i (by split <;> omega) (by split <;> omega) (by omega) (by omega)
      constructor <;> omega
    · have := gapGo_bound st xs (i + 1) lg la h1 (by omega) h3 (by omega)
      constructor <;> omega
theorem gapOf_bound (order : List Int) (st : Int) : 0 ≤ gapOf order st ∧ gapOf order st ≤ order.length := by
  have := gapGo_bound st order 0 0 (-1) (by omega) (by omega) (by omega) (by omega)
  unfold gapOf
  omega
def widthN (size : Int) (order : List Int) (st rounds : Int) : Int := if (order.count st : Int) = 0 then 1 else 1 + powN size (gapOf order st).toNat * (if (order.count st : Int) = 1 then 1 else rounds)
/-- the turns' ends, and the gaps between them -/
def endsOf (st : Int) : List Int → Int → List Int
  | [], _ => []
  | x :: xs, i => if x = st then (i + 1) :: endsOf st xs (i + 1) else endsOf st xs (i + 1)
def difs (st : Int) : List Int → Int → Int → List Int
  | [], _, _ => []
  | x :: xs, i, la => if x = st then (i - la) :: difs st xs (i + 1) i else difs st xs (i + 1) la
theorem ends_len (st : Int) : ∀ (xs : List Int) (i : Int), (endsOf st xs i).length = xs.count st
  | [], _ => rfl
  | x :: xs, i => by
    unfold endsOf
    rw [List.count_cons]
    by_cases h : x = st
    · rw [if_pos h, List.length_cons, ends_len st xs, if_pos (by simp [h])]
    · rw [if_neg h, ends_len st xs, if_neg (by simp [h])]
      omega
theorem difs_zip (st : Int) : ∀ (xs : List Int) (i la : Int), ((la + 1) :: endsOf st xs i).zipWith (fun a b => b - a) (endsOf st xs i) = difs st xs i la
  | [], _, _ => rfl
  | x :: xs, i, la => by
    unfold endsOf difs
    by_cases h : x = st
    · rw [if_pos h, if_pos h, List.zipWith_cons_cons, difs_zip st xs (i + 1) i]
      congr 1
      omega
    · rw [if_neg h, if_neg h]
      exact difs_zip st xs (i + 1) la
theorem gap_max (st : Int) : ∀ (xs : List Int) (i lg la : Int), (lg ≤ (gapGo st xs i lg la).1) ∧ (∀ d ∈ difs st xs i la, d ≤ (gapGo st xs i lg la).1) ∧ ((gapGo st xs i lg la).1 = lg ∨ (gapGo st xs i lg la).1 ∈ difs st xs i la)
  | [], i, lg, la => ⟨Int.le_refl _, fun d h => absurd h List.not_mem_nil, .inl rfl⟩
  | x :: xs, i, lg, la => by
    unfold gapGo difs
    by_cases h : x = st
    · rw [if_pos h, if_pos h]
      obtain ⟨a, b, c⟩ := gap_max st xs (i + 1) (if i - la > lg then i - la else lg) i
      have ha : lg ≤ (if i - la > lg then i - la else lg) ∧ i - la ≤ (if i - la > lg then i - la else lg) := by split <;> omega
      refine ⟨by omega, fun d hd => ?_, ?_⟩
      · rcases List.mem_cons.mp hd with rfl | hd
        · omega
        · exact b d hd
      · rcases c with c | c
        · rw [c]
          split
          · exact .inr List.mem_cons_self
          · exact .inl rfl
        · exact .inr (List.mem_cons_of_mem _ c)
    · rw [if_neg h, if_neg h]
      exact gap_max st xs (i + 1) lg la
theorem difs_pos (st : Int) : ∀ (xs : List Int) (i la : Int), la < i → ∀ d ∈ difs st xs i la, 0 < d
  | [], _, _, _, d, h => absurd h List.not_mem_nil
  | x :: xs, i, la, hl, d, h => by
    unfold difs at h
    split at h
    · rcases List.mem_cons.mp h with rfl | h
      · omega
      · exact difs_pos st xs (i + 1) i (by omega) d h
    · exact difs_pos st xs (i + 1) la (by omega) d h
theorem gap_is {st : Int} {order : List Int} {m : Int} (hm : m ∈ difs st order 0 (-1)) (hb : ∀ y ∈ difs st order 0 (-1), y ≤ m) : m = gapOf order st := by
  obtain ⟨a, b, c⟩ := gap_max st order 0 0 (-1)
  have h1 := difs_pos st order 0 (-1) (by omega) m hm
  have h2 := b m hm
  unfold gapOf
  rcases c with c | c
  · omega
  · have := hb _ c
    omega
end K10
namespace K10
theorem powN_pos {n : Int} (h0 : 1 ≤ n) : ∀ k : Nat, 1 ≤ powN n k
  | 0 => by show (1 : Int) ≤ 1; decide
  | k + 1 => by
    have h := Int.mul_le_mul (powN_pos h0 k) h0 (by decide) (by have := powN_pos h0 k; omega)
    rw [powN]
    omega
def dgL (size n : Int) : Nat → Int
  | 0 => n
  | k + 1 => dgL size n k / size
def dgF (size n : Int) : Nat → List Int
  | 0 => []
  | k + 1 => (dgL size n k % size) :: dgF size n k
def nxGo (st turn : Int) : List Int → Int → Option Int
  | [], _ => none
  | x :: xs, i => if turn ≤ i ∧ x = st then some i else nxGo st turn xs (i + 1)
def nextTurn (order : List Int) (st turn : Int) : Option Int := nxGo st turn order 0
/-! figures from the front -/
def frF (size : Int) : Int → Nat → List Int
  | r, 0 => [r / powN size 0]
  | r, k + 1 => (r / powN size (k + 1)) :: frF size (r % powN size (k + 1)) k
theorem frF_eq (size r : Int) : ∀ k, frF size r k = (r / powN size k) :: (match k with | 0 => [] | j + 1 => frF size (r % powN size (j + 1)) j)
  | 0 => rfl
  | k + 1 => rfl
theorem dgL_eq {size : Int} (h : 1 ≤ size) (n : Int) : ∀ k, dgL size n k = n / powN size k
  | 0 => by simp [dgL, powN]
  | k + 1 => by rw [dgL, dgL_eq h n k, powN, Int.ediv_ediv_of_nonneg (by have := powN_pos h k; omega)]
theorem mod_div {n a b : Int} (ha : 0 < a) (hb : 0 < b) : n % (a * b) / a = (n / a) % b := by
  have e1 := Int.emod_add_mul_ediv n (a * b)
  have h : n % (a * b) = n + a * (-(b * (n / (a * b)))) := by
    rw [Int.mul_neg, ← Int.mul_assoc]
    omega
  rw [h, Int.add_mul_ediv_left _ _ (by omega), ← Int.ediv_ediv_of_nonneg (by omega), Int.emod_def]
  omega
theorem mod_mod_pow {n a b : Int} : n % (a * b) % a = n % a := Int.emod_emod_of_dvd n ⟨b, rfl⟩
theorem dgF_mod {size : Int} (h : 1 ≤ size) (n : Int) : ∀ (k j : Nat), k ≤ j → dgF size (n % powN size j) k = dgF size n k
  | 0, _, _ => rfl
  | k + 1, j, hj => by
    rw [dgF, dgF, dgF_mod h n k j (by omega), dgL_eq h, dgL_eq h]
    congr 1
    have hp : ∀ m : Nat, ∃ c : Int, 1 ≤ c ∧ powN size (k + 1 + m) = powN size k * (size * c) := by
      intro m
      induction m with
      | zero => exact ⟨1, by decide, by rw [Int.mul_one]; rfl⟩
      | succ m ih =>
        obtain ⟨c, hc, e⟩ := ih
        refine ⟨c * size, Int.le_trans (by decide) (Int.mul_le_mul hc h (by decide) (by omega)), ?_⟩
        rw [show k + 1 + (m + 1) = (k + 1 + m) + 1 from rfl, powN, e, Int.mul_assoc, Int.mul_assoc]
    obtain ⟨c, hc, e⟩ := hp (j - (k + 1))
    rw [show k + 1 + (j - (k + 1)) = j by omega] at e
    rw [e, mod_div (by have := powN_pos h k; omega) (by have := Int.mul_le_mul h hc (by decide) (by omega); omega)]
    exact mod_mod_pow
theorem frF_dg {size : Int} (h : 1 ≤ size) : ∀ (k : Nat) (r : Int), frF size r k = (r / powN size k) :: dgF size r k
  | 0, r => rfl
  | k + 1, r => by
    rw [frF, frF_dg h k]
    congr 1
    rw [dgF, dgL_eq h, dgF_mod h r k (k + 1) (by omega)]
    congr 1
    rw [powN]
    exact mod_div (by have := powN_pos h k; omega) (by omega)
theorem fr_fits {size r : Int} {k : Nat} (h : 2 ≤ size) (hr : 0 ≤ r) (hf : r / powN size k < size) : dgL size r (k + 1) = 0 ∧ dgF size r (k + 1) = frF size r k := by
  have h1 : 1 ≤ size := by omega
  have hp := powN_pos h1 k
  have h0 : 0 ≤ r / powN size k := Int.ediv_nonneg hr (by omega)
  rw [dgL, dgF, dgL_eq h1, frF_dg h1]
  exact ⟨Int.ediv_eq_zero_of_lt h0 hf, by rw [Int.emod_eq_of_lt h0 hf]⟩
theorem fr_not {size r : Int} {k : Nat} (h : 2 ≤ size) (hr : 0 ≤ r) (hf : ¬ r / powN size k < size) : dgL size r (k + 1) ≠ 0 := by
  have h1 : 1 ≤ size := by omega
  rw [dgL, dgL_eq h1]
  intro e
  have : size ≤ r / powN size k := by omega
  have := Int.ediv_le_ediv (a := size) (b := r / powN size k) (c := size) (by omega) this
  rw [e, Int.ediv_self (by omega)] at this
  omega
theorem frF_len {size : Int} : ∀ (k : Nat) (r : Int), (frF size r k).length = k + 1
  | 0, r => rfl
  | k + 1, r => by rw [frF, List.length_cons, frF_len k]
/-! the turns from a turn on -/
def latGo (st : Int) : List Int → Int → List Int
  | [], _ => []
  | x :: xs, i => if x = st then i :: latGo st xs (i + 1) else latGo st xs (i + 1)
theorem latGo_head (st turn : Int) : ∀ (xs : List Int) (i : Int), turn ≤ i → nxGo st turn xs i = (latGo st xs i).head?
  | [], _, _ => rfl
  | x :: xs, i, h => by
    unfold nxGo latGo
    by_cases hx : x = st
    · rw [if_pos ⟨h, hx⟩, if_pos hx]; rfl
    · rw [if_neg fun z => hx z.2, if_neg hx, latGo_head st turn xs (i + 1) (by omega)]
theorem nx_lat (st : Int) (turn : Nat) : ∀ (xs : List Int) (i : Nat), i ≤ turn → nxGo st turn xs i = (latGo st (xs.drop (turn - i)) turn).head?
  | [], i, _ => by rw [List.drop_nil]; rfl
  | x :: xs, i, h => by
    by_cases e : i = turn
    · subst e
      rw [Nat.sub_self, List.drop_zero]
      exact latGo_head st _ _ _ (Int.le_refl _)
    · have q : turn - i = turn - (i + 1) + 1 := by omega
      rw [nxGo, if_neg (by omega), q, List.drop_succ_cons]
      exact nx_lat st turn xs (i + 1) (by omega)
theorem next_lat (order : List Int) (st : Int) (turn : Nat) : nextTurn order st turn = (latGo st (order.drop turn) turn).head? := nx_lat st turn order 0 (Nat.zero_le _)
end K10
namespace K10
theorem dgF_len (size n : Int) : ∀ k, (dgF size n k).length = k
  | 0 => rfl
  | k + 1 => by rw [dgF, List.length_cons, dgF_len size n k]
theorem nxGo_bound {st turn n : Int} : ∀ {xs : List Int} {i : Int}, nxGo st turn xs i = some n → turn ≤ n ∧ i ≤ n ∧ n < i + xs.length
  | [], i, h => by cases h
  | x :: xs, i, h => by
    unfold nxGo at h
    rw [List.length_cons]
    split at h
    · rename_i q
      cases h
      omega
    · have := nxGo_bound h
      omega
/-- the node of a symbol -/
def nodeAt (size : Int) (order : List Int) (st number : Int) : Option (List Int) → Option (List Int)
  | none => none
  | some s => match nextTurn order st s.length with
    | none => none
    | some t => if dgL size number (t + 1 - s.length).toNat = 0 then some (s ++ dgF size number (t + 1 - s.length).toNat) else none
def nodeOf (size : Int) (order : List Int) (st sym : Int) (nds : List (Option (List Int))) : Option (List Int) :=
  if sym = 0 then none else
  if ((nds.length : Nat) : Int) < (sym - 1) / powN size (gapOf order st).toNat then none else
  nodeAt size order st ((sym - 1) % powN size (gapOf order st).toNat) (if (sym - 1) / powN size (gapOf order st).toNat = 0 then some [] else (nds[((sym - 1) / powN size (gapOf order st).toNat - 1).toNat]?).join)
/-- nodes are short, their letters small -/
def NdOk (nds : List (Option (List Int))) : Prop := ∀ l, some l ∈ nds → l.length ≤ 8 ∧ ∀ x ∈ l, 0 ≤ x ∧ x < 9
theorem dgF_mem {size n : Int} (h : 0 < size) : ∀ (k : Nat), ∀ x ∈ dgF size n k, 0 ≤ x ∧ x < size
  | 0, x, hx => by cases hx
  | k + 1, x, hx => by
    rw [dgF] at hx
    rcases List.mem_cons.mp hx with rfl | hx
    · exact ⟨Int.emod_nonneg _ (by omega), Int.emod_lt_of_pos _ h⟩
    · exact dgF_mem h k x hx
theorem nodeOf_ok {size : Int} {order : List Int} {st sym : Int} {nds : List (Option (List Int))} (h2 : 2 ≤ size) (h9 : size ≤ 9) (ho : order.length ≤ 8) (h : NdOk nds) {l : List Int} (e : nodeOf size order st sym nds = some l) : l.length ≤ 8 ∧ ∀ x ∈ l, 0 ≤ x ∧ x < 9 := by
  unfold nodeOf at e
  split at e
  · cases e
  split at e
  · cases e
  generalize (sym - 1) % powN size (gapOf order st).toNat = r at e
  have hs : ∀ s, (if (sym - 1) / powN size (gapOf order st).toNat = 0 then some [] else (nds[((sym - 1) / powN size (gapOf order st).toNat - 1).toNat]?).join) = some s → s.length ≤ 8 ∧ ∀ x ∈ s, 0 ≤ x ∧ x < 9 := by
    intro s q
    split at q
    · cases q
      exact ⟨Nat.zero_le _, fun x hx => by cases hx⟩
    · cases z : nds[((sym - 1) / powN size (gapOf order st).toNat - 1).toNat]? with
      | none => rw [z] at q; cases q
      | some m =>
        rw [z] at q
        have q : m = some s := q
        exact h s (by rw [← q]; exact List.mem_of_getElem? z)
  generalize (if (sym - 1) / powN size (gapOf order st).toNat = 0 then some [] else (nds[((sym - 1) / powN size (gapOf order st).toNat - 1).toNat]?).join) = stt at e hs
  cases stt with
  | none => cases e
  | some s =>
    obtain ⟨s1, s2⟩ := hs s rfl
    unfold nodeAt at e
    cases hn : nextTurn order st s.length with
    | none => simp only [hn] at e; cases e
    | some t =>
      simp only [hn] at e
      have hb := nxGo_bound hn
      split at e
      · cases e
        refine ⟨by rw [List.length_append, dgF_len]; omega, fun x hx => ?_⟩
        rcases List.mem_append.mp hx with hx | hx
        · exact s2 x hx
        · have := dgF_mem (by omega) _ x hx
          omega
      · cases e
/-- the nodes of a list -/
def nodesGo (size : Int) (order : List Int) (st : Int) : List Int → List (Option (List Int)) → List (Option (List Int))
  | [], nds => nds
  | s :: ss, nds => nodesGo size order st ss (nds ++ [nodeOf size order st s nds])
def nodesOf (size : Int) (order : List Int) (st : Int) (syms : List Int) : List (Option (List Int)) := nodesGo size order st syms []
theorem nodesGo_snoc (size : Int) (order : List Int) (st : Int) : ∀ (ss : List Int) (s : Int) (nds : List (Option (List Int))), nodesGo size order st (ss ++ [s]) nds = nodesGo size order st ss nds ++ [nodeOf size order st s (nodesGo size order st ss nds)]
  | [], _, _ => rfl
  | x :: xs, s, nds => by
    show nodesGo size order st (xs ++ [s]) _ = _
    rw [nodesGo_snoc size order st xs s]
    rfl
theorem nodesOf_snoc (size : Int) (order : List Int) (st : Int) (ss : List Int) (s : Int) : nodesOf size order st (ss ++ [s]) = nodesOf size order st ss ++ [nodeOf size order st s (nodesOf size order st ss)] := nodesGo_snoc size order st ss s []
theorem nodesGo_len (size : Int) (order : List Int) (st : Int) : ∀ (ss : List Int) (nds : List (Option (List Int))), (nodesGo size order st ss nds).length = nds.length + ss.length
  | [], _ => rfl
  | x :: xs, nds => by
    show (nodesGo size order st xs _).length = _
    rw [nodesGo_len size order st xs, List.length_append, List.length_cons, List.length_cons, List.length_nil]
    omega
theorem nodesOf_len {size : Int} {order : List Int} {st : Int} {ss : List Int} : (nodesOf size order st ss).length = ss.length := by rw [nodesOf, nodesGo_len, List.length_nil, Nat.zero_add]
theorem NdOk.snoc {nds : List (Option (List Int))} {n : Option (List Int)} (h : NdOk nds) (hn : ∀ l, n = some l → l.length ≤ 8 ∧ ∀ x ∈ l, 0 ≤ x ∧ x < 9) : NdOk (nds ++ [n]) := fun l hl => by
  rcases List.mem_append.mp hl with hl | hl
  · exact h l hl
  · exact hn l (List.mem_singleton.mp hl).symm
theorem nodesGo_ok {size : Int} {order : List Int} {st : Int} (h2 : 2 ≤ size) (h9 : size ≤ 9) (ho : order.length ≤ 8) : ∀ (ss : List Int) (nds : List (Option (List Int))), NdOk nds → NdOk (nodesGo size order st ss nds)
  | [], _, h => h
  | x :: xs, nds, h => nodesGo_ok h2 h9 ho xs _ (h.snoc fun l e => nodeOf_ok h2 h9 ho h e)
theorem nodesOf_ok {size : Int} {order : List Int} {st : Int} (h2 : 2 ≤ size) (h9 : size ≤ 9) (ho : order.length ≤ 8) (ss : List Int) : NdOk (nodesOf size order st ss) := nodesGo_ok h2 h9 ho ss [] fun l hl => by cases hl
theorem nodesGo_pre (size : Int) (order : List Int) (st : Int) : ∀ (ss : List Int) (nds : List (Option (List Int))), ∃ r, nodesGo size order st ss nds = nds ++ r
  | [], nds => ⟨[], by simp [nodesGo]⟩
  | x :: xs, nds => by
    obtain ⟨r, e⟩ := nodesGo_pre size order st xs (nds ++ [nodeOf size order st x nds])
    exact ⟨_, by rw [nodesGo, e, List.append_assoc]⟩
theorem nodesGo_app (size : Int) (order : List Int) (st : Int) : ∀ (ss ts : List Int) (nds : List (Option (List Int))), nodesGo size order st (ss ++ ts) nds = nodesGo size order st ts (nodesGo size order st ss nds)
  | [], _, _ => rfl
  | x :: xs, ts, nds => nodesGo_app size order st xs ts _
/-- the beginning of a list denotes the beginning -/
theorem nodesOf_take (size : Int) (order : List Int) (st : Int) (ss : List Int) (n : Nat) : nodesOf size order st (ss.take n) = (nodesOf size order st ss).take n := by
  obtain ⟨r, e⟩ := nodesGo_pre size order st (ss.drop n) (nodesOf size order st (ss.take n))
  have h : nodesOf size order st ss = nodesOf size order st (ss.take n) ++ r := by
    rw [← e]
    unfold nodesOf
    rw [← nodesGo_app, List.take_append_drop]
  by_cases hn : n ≤ ss.length
  · have hl : (nodesOf size order st (ss.take n)).length = n := by rw [nodesOf_len, List.length_take]; omega
    rw [h]
    exact (List.take_left' hl).symm
  · rw [List.take_of_length_le (by omega), List.take_of_length_le (by rw [nodesOf_len]; omega)]
/-- two turns or more: no gap spans all -/
theorem difs_le (st : Int) : ∀ (xs : List Int) (i la : Int), la < i → ∀ d ∈ difs st xs i la, d + (xs.count st : Int) - 1 ≤ i + xs.length - 1 - la
  | [], _, _, _, d, h => absurd h List.not_mem_nil
  | x :: xs, i, la, hl, d, h => by
    unfold difs at h
    rw [List.count_cons, List.length_cons]
    have hc : xs.count st ≤ xs.length := List.count_le_length
    split at h
    · rename_i e
      rw [if_pos (by simp [e])]
      rcases List.mem_cons.mp h with rfl | h
      · omega
      · have := difs_le st xs (i + 1) i (by omega) d h
        omega
    · rename_i e
      rw [if_neg (by simp [e])]
      have := difs_le st xs (i + 1) la (by omega) d h
      omega
theorem gap_two {st : Int} {order : List Int} (h : 2 ≤ order.count st) (h8 : order.length ≤ 8) : gapOf order st ≤ 7 := by
  obtain ⟨a, b, c⟩ := gap_max st order 0 0 (-1)
  unfold gapOf
  rcases c with c | c
  · omega
  · have := difs_le st order 0 (-1) (by omega) _ c
    omega
end K10
namespace K10
/-! announced nodes -/
/-- the last turn of a station below n -/
def prevT (order : List Int) (st : Int) : Nat → Option Nat
  | 0 => none
  | k + 1 => if order[k]? = some st then some k else prevT order st k
/-- all turns of a station below n -/
def turnsT (order : List Int) (st : Int) : Nat → List Int
  | 0 => []
  | k + 1 => if order[k]? = some st then turnsT order st k ++ [(k : Int)] else turnsT order st k
theorem prevT_lt {order : List Int} {st : Int} : ∀ {n k : Nat}, prevT order st n = some k → k < n
  | 0, k, h => by cases h
  | n + 1, k, h => by
    unfold prevT at h
    split at h
    · cases h; omega
    · have := prevT_lt h; omega
theorem prevT_turn {order : List Int} {st : Int} : ∀ {n k : Nat}, prevT order st n = some k → order[k]? = some st
  | 0, k, h => by cases h
  | n + 1, k, h => by
    unfold prevT at h
    split at h
    · cases h; assumption
    · exact prevT_turn h
theorem turns_last (order : List Int) (st : Int) : ∀ n : Nat, (turnsT order st n = [] ∧ prevT order st n = none) ∨ ∃ (init : List Int) (k : Nat), turnsT order st n = init ++ [(k : Int)] ∧ prevT order st n = some k
  | 0 => .inl ⟨rfl, rfl⟩
  | n + 1 => by
    unfold turnsT prevT
    split
    · exact .inr ⟨_, n, rfl, rfl⟩
    · exact turns_last order st n
theorem turns_len (order : List Int) (st : Int) : ∀ n : Nat, (turnsT order st n).length ≤ n
  | 0 => Nat.le_refl _
  | n + 1 => by
    unfold turnsT
    have := turns_len order st n
    split
    · rw [List.length_append, List.length_singleton]; omega
    · omega
/-- where the node at the turn before ends -/
def startOf (order : List Int) (st : Int) (goal : List Int) : List Int := match prevT order st (goal.length - 1) with
  | none => []
  | some k => goal.take (k + 1)
def numGo (size : Int) : List Int → Int → Int
  | [], n => n
  | x :: xs, n => numGo size xs (n * size + x)
def numOf (size : Int) (xs : List Int) : Int := numGo size xs 0
theorem numGo_snoc (size : Int) : ∀ (xs : List Int) (x n : Int), numGo size (xs ++ [x]) n = numGo size xs n * size + x
  | [], _, _ => rfl
  | y :: ys, x, n => numGo_snoc size ys x _
theorem numOf_snoc (size : Int) (xs : List Int) (x : Int) : numOf size (xs ++ [x]) = numOf size xs * size + x := numGo_snoc size xs x 0
theorem numOf_bound {size : Int} (h2 : 2 ≤ size) : ∀ (xs : List Int), (∀ x ∈ xs, 0 ≤ x ∧ x < size) → 0 ≤ numOf size xs ∧ numOf size xs < powN size xs.length := by
  intro xs h
  have key : ∀ n : Nat, n ≤ xs.length → 0 ≤ numOf size (xs.take n) ∧ numOf size (xs.take n) < powN size n := by
    intro n
    induction n with
    | zero => intro _; exact ⟨Int.le_refl _, by show (0 : Int) < 1; decide⟩
    | succ n ih =>
      intro hn
      obtain ⟨a, b⟩ := ih (by omega)
      have hx : xs[n]? = some xs[n] := List.getElem?_eq_getElem (by omega)
      obtain ⟨c, d⟩ := h xs[n] (List.getElem_mem _)
      rw [List.take_succ, hx]
      show 0 ≤ numOf size (xs.take n ++ [xs[n]]) ∧ numOf size (xs.take n ++ [xs[n]]) < powN size n * size
      rw [numOf_snoc]
      have e1 := Int.mul_nonneg a (show 0 ≤ size by omega)
      have e2 := Int.mul_le_mul_of_nonneg_right (show numOf size (xs.take n) ≤ powN size n - 1 by omega) (show 0 ≤ size by omega)
      rw [Int.sub_mul, Int.one_mul] at e2
      omega
  have := key xs.length (Nat.le_refl _)
  rwa [List.take_of_length_le (Nat.le_refl _)] at this
def pointOf (nds : List (Option (List Int))) (s : List Int) : Nat := (some [] :: nds).idxOf (some s)
theorem pointOf_le {nds : List (Option (List Int))} {s : List Int} : pointOf nds s ≤ nds.length + 1 := by
  unfold pointOf
  have := List.idxOf_le_length (l := some [] :: nds) (a := some s)
  rw [List.length_cons] at this
  omega
def annN (size : Int) (order : List Int) (st : Int) (nds : List (Option (List Int))) (goal : List Int) : Option Int :=
  if prevT order st (goal.length - 1) ≠ none ∧ some (startOf order st goal) ∉ nds then none
  else some (1 + (pointOf nds (startOf order st goal) : Int) * powN size (gapOf order st).toNat + numOf size (goal.drop (startOf order st goal).length))
/-! walks -/
def isKid (node : List Int) : Option (List Int) → Bool
  | none => false
  | some l => decide (l.length = node.length + 1) && decide (l.dropLast = node)
def kids (node : List Int) (row : List (Option (List Int))) : List (List Int) := row.filterMap fun o => if isKid node o then o else none
theorem kids_snoc (node : List Int) (row : List (Option (List Int))) (o : Option (List Int)) : kids node (row ++ [o]) = kids node row ++ (if isKid node o then o.toList else []) := by
  unfold kids
  rw [List.filterMap_append]
  congr 1
  cases o with
  | none => simp [isKid]
  | some l => by_cases h : isKid node (some l) <;> simp [h]
theorem kids_mem {node l : List Int} {row : List (Option (List Int))} (h : l ∈ kids node row) : some l ∈ row ∧ l.length = node.length + 1 := by
  unfold kids at h
  rw [List.mem_filterMap] at h
  obtain ⟨o, h1, h2⟩ := h
  split at h2
  · rename_i h3
    subst h2
    simp only [isKid, Bool.and_eq_true, decide_eq_true_eq] at h3
    exact ⟨h1, h3.1⟩
  · cases h2
theorem kids_len (node : List Int) (row : List (Option (List Int))) : (kids node row).length ≤ row.length := List.length_filterMap_le _ _
def rowsGo (size : Int) (order : List Int) : Nat → List (List Int) → List (List (Option (List Int)))
  | _, [] => []
  | i, s :: ss => nodesOf size order (i : Nat) s :: rowsGo size order (i + 1) ss
theorem rowsGo_get (size : Int) (order : List Int) : ∀ (ss : List (List Int)) (i j : Nat) (s : List Int), ss[j]? = some s → (rowsGo size order i ss)[j]? = some (nodesOf size order ((i + j : Nat) : Int) s)
  | [], _, _, _, h => by cases h
  | x :: xs, i, 0, s, h => by cases h; rfl
  | x :: xs, i, j + 1, s, h => by
    rw [rowsGo, List.getElem?_cons_succ, rowsGo_get size order xs (i + 1) j s h, show i + 1 + j = i + (j + 1) by omega]
theorem rowsGo_len (size : Int) (order : List Int) : ∀ (ss : List (List Int)) (i : Nat), (rowsGo size order i ss).length = ss.length
  | [], _ => rfl
  | x :: xs, i => by rw [rowsGo, List.length_cons, List.length_cons, rowsGo_len size order xs]
def rowsOf (size : Int) (order : List Int) (ss : List (List Int)) : List (List (Option (List Int))) := rowsGo size order 0 ss
theorem rowsOf_get {size : Int} {order : List Int} {ss : List (List Int)} {j : Nat} {s : List Int} (h : ss[j]? = some s) : (rowsOf size order ss)[j]? = some (nodesOf size order (j : Int) s) := by
  have := rowsGo_get size order ss 0 j s h
  rwa [Nat.zero_add] at this
theorem rowsOf_len {size : Int} {order : List Int} {ss : List (List Int)} : (rowsOf size order ss).length = ss.length := rowsGo_len size order ss 0
def walkGo (rows : List (List (Option (List Int)))) : List Int → List Int → List Int
  | [], node => node
  | sp :: rest, node => match kids node (rows[sp.toNat]?.getD []) with
    | [] => node
    | c :: _ => walkGo rows rest c
def walkN (size : Int) (order : List Int) (ss : List (List Int)) : List Int := walkGo (rowsOf size order ss) order []
end K10
namespace K10
/-! an announced symbol denotes its node -/
theorem prevT_none {order : List Int} {st : Int} : ∀ {n : Nat}, prevT order st n = none → ∀ k, k < n → order[k]? ≠ some st
  | 0, _, k, hk => absurd hk (Nat.not_lt_zero k)
  | n + 1, h, k, hk => by
    unfold prevT at h
    split at h
    · cases h
    · rename_i hn
      by_cases e : k = n
      · subst e; exact hn
      · exact prevT_none h k (by omega)
theorem prevT_max {order : List Int} {st : Int} : ∀ {n p : Nat}, prevT order st n = some p → ∀ k, p < k → k < n → order[k]? ≠ some st
  | 0, _, h, _, _, _ => by cases h
  | n + 1, p, h, k, h1, h2 => by
    unfold prevT at h
    split at h
    · cases h; omega
    · rename_i hn
      by_cases e : k = n
      · subst e; exact hn
      · exact prevT_max h k h1 (by omega)
def laI (order : List Int) (st : Int) (n : Nat) : Int := match prevT order st n with
  | none => -1
  | some k => k
theorem laI_succ (order : List Int) (st : Int) (n : Nat) : laI order st (n + 1) = if order[n]? = some st then (n : Int) else laI order st n := by
  unfold laI
  rw [prevT]
  by_cases h : order[n]? = some st
  · rw [if_pos h, if_pos h]
  · rw [if_neg h, if_neg h]
theorem difs_has {order : List Int} {st : Int} {t : Nat} (ht : order[t]? = some st) : ∀ (m i : Nat), i + m = t → (t : Int) - laI order st t ∈ difs st (order.drop i) i (laI order st i)
  | 0, i, e => by
    have e : i = t := by omega
    subst e
    obtain ⟨hl, hv⟩ := List.getElem?_eq_some_iff.mp ht
    rw [List.drop_eq_getElem_cons hl, difs, if_pos hv]
    exact List.mem_cons_self
  | m + 1, i, e => by
    obtain ⟨hl, _⟩ := List.getElem?_eq_some_iff.mp ht
    have hi : i < order.length := by omega
    have ih := difs_has ht m (i + 1) (by omega)
    rw [List.drop_eq_getElem_cons hi, difs]
    rw [laI_succ] at ih
    by_cases h : order[i] = st
    · rw [if_pos (by rw [List.getElem?_eq_getElem hi, h])] at ih
      rw [if_pos h]
      exact List.mem_cons_of_mem _ ih
    · rw [if_neg (by rw [List.getElem?_eq_getElem hi]; simpa using h)] at ih
      rw [if_neg h]
      exact ih
theorem gap_ge {order : List Int} {st : Int} {t : Nat} (ht : order[t]? = some st) : (t : Int) - laI order st t ≤ gapOf order st := by
  have h := difs_has ht t 0 (by omega)
  exact (gap_max st order 0 0 (-1)).2.1 _ h
theorem nx_char {st turn : Int} : ∀ {xs : List Int} {i t : Nat}, xs[t]? = some st → turn ≤ ((i + t : Nat) : Int) → (∀ k : Nat, turn ≤ ((i + k : Nat) : Int) → k < t → xs[k]? ≠ some st) → nxGo st turn xs i = some ((i + t : Nat) : Int)
  | [], _, _, h, _, _ => by cases h
  | x :: xs, i, 0, h, h1, _ => by
    cases h
    rw [nxGo, if_pos ⟨by simpa using h1, rfl⟩]
    rfl
  | x :: xs, i, t + 1, h, h1, h2 => by
    have hx : ¬ (turn ≤ (i : Int) ∧ x = st) := fun ⟨a, b⟩ => h2 0 (by simpa using a) (Nat.zero_lt_succ t) (by rw [b]; rfl)
    rw [nxGo, if_neg hx]
    have := nx_char (xs := xs) (i := i + 1) (t := t) h (by rw [show i + 1 + t = i + (t + 1) by omega]; exact h1) fun k hk hkt => h2 (k + 1) (by rw [show i + (k + 1) = i + 1 + k by omega]; exact hk) (by omega)
    rw [show i + 1 + t = i + (t + 1) by omega] at this
    exact this
theorem next_char {order : List Int} {st : Int} {n t : Nat} (ht : order[t]? = some st) (hn : n ≤ t) (h : ∀ k, n ≤ k → k < t → order[k]? ≠ some st) : nextTurn order st n = some (t : Int) := by
  have := nx_char (st := st) (turn := (n : Int)) (xs := order) (i := 0) (t := t) ht (by omega) fun k hk hkt => h k (by omega) hkt
  rw [Nat.zero_add] at this
  exact this
/-- figures and numbers are each other's -/
theorem dgL_add {size : Int} (h : 2 ≤ size) {x n : Int} (hx : 0 ≤ x) (hx2 : x < size) : ∀ k, dgL size (n * size + x) (k + 1) = dgL size n k
  | 0 => by
    show (n * size + x) / size = n
    rw [Int.add_comm, Int.add_mul_ediv_right _ _ (by omega), Int.ediv_eq_zero_of_lt hx hx2, Int.zero_add]
  | k + 1 => by
    show dgL size (n * size + x) (k + 1) / size = dgL size n k / size
    rw [dgL_add h hx hx2 k]
theorem dgF_add {size : Int} (h : 2 ≤ size) {x n : Int} (hx : 0 ≤ x) (hx2 : x < size) : ∀ k, dgF size (n * size + x) (k + 1) = dgF size n k ++ [x]
  | 0 => by
    show [(n * size + x) % size] = [x]
    rw [Int.add_comm, Int.add_mul_emod_self_right, Int.emod_eq_of_lt hx hx2]
  | k + 1 => by
    show (dgL size (n * size + x) (k + 1) % size) :: dgF size (n * size + x) (k + 1) = (dgL size n k % size) :: dgF size n k ++ [x]
    rw [dgL_add h hx hx2 k, dgF_add h hx hx2 k]
    rfl
theorem snoc_ind {α : Type} {p : List α → Prop} (h0 : p []) (h1 : ∀ xs x, p xs → p (xs ++ [x])) : ∀ xs, p xs := by
  intro xs
  have : ∀ ys : List α, p ys.reverse := by
    intro ys
    induction ys with
    | nil => exact h0
    | cons y ys ih => rw [List.reverse_cons]; exact h1 _ _ ih
  have := this xs.reverse
  rwa [List.reverse_reverse] at this
theorem dg_num {size : Int} (h : 2 ≤ size) : ∀ xs : List Int, (∀ x ∈ xs, 0 ≤ x ∧ x < size) → dgL size (numOf size xs) xs.length = 0 ∧ dgF size (numOf size xs) xs.length = xs := by
  refine snoc_ind (fun _ => ⟨rfl, rfl⟩) fun xs x ih hx => ?_
  obtain ⟨a, b⟩ := ih fun y hy => hx y (List.mem_append_left _ hy)
  obtain ⟨c, d⟩ := hx x (List.mem_append_right _ List.mem_cons_self)
  rw [numOf_snoc, List.length_append, List.length_singleton, dgL_add h c d, dgF_add h c d, a, b]
  exact ⟨rfl, rfl⟩
theorem pow_mono {size : Int} (h : 1 ≤ size) {i : Nat} : ∀ j : Nat, powN size i ≤ powN size (i + j)
  | 0 => Int.le_refl _
  | j + 1 => by
    have h1 := pow_mono h (i := i) j
    have h2 := powN_pos h (i + j)
    have h3 := Int.mul_le_mul_of_nonneg_left h (show 0 ≤ powN size (i + j) by omega)
    show powN size i ≤ powN size (i + j) * size
    omega
theorem startOf_some {order : List Int} {st : Int} {goal : List Int} {p : Nat} (h : prevT order st (goal.length - 1) = some p) : startOf order st goal = goal.take (p + 1) := by
  unfold startOf
  rw [h]
theorem startOf_none {order : List Int} {st : Int} {goal : List Int} (h : prevT order st (goal.length - 1) = none) : startOf order st goal = [] := by
  unfold startOf
  rw [h]
/-- a node that ends with a turn of the station, the node at the turn before denoted: its symbol denotes it -/
theorem ann_node {size : Int} {order : List Int} {st : Int} {nds : List (Option (List Int))} {goal : List Int} {t : Nat} (h2 : 2 ≤ size) (ht : order[t]? = some st) (hg : goal.length = t + 1) (hm : ∀ x ∈ goal, 0 ≤ x ∧ x < size)
    (hp : prevT order st t = none ∨ some (startOf order st goal) ∈ nds) : ∃ due : Int, annN size order st nds goal = some due ∧ nodeOf size order st due nds = some goal ∧ 0 < due ∧ due < 1 + ((pointOf nds (startOf order st goal) : Int) + 1) * powN size (gapOf order st).toNat ∧ pointOf nds (startOf order st goal) ≤ nds.length ∧
      (prevT order st t = none → pointOf nds (startOf order st goal) = 0) := by
  have e1 : goal.length - 1 = t := by omega
  have hb := powN_pos (show 1 ≤ size by omega) (gapOf order st).toNat
  have hgap := gap_ge ht
  have g0 := (gapOf_bound order st).1
  -- the start
  have hs : (startOf order st goal).length ≤ t ∧ startOf order st goal = goal.take (startOf order st goal).length ∧ (((t : Int) + 1 - ((startOf order st goal).length : Int)) ≤ gapOf order st) ∧ nextTurn order st (startOf order st goal).length = some (t : Int) := by
    cases hpt : prevT order st t with
    | none =>
      rw [startOf_none (by rw [e1]; exact hpt)]
      refine ⟨Nat.zero_le _, rfl, ?_, next_char ht (Nat.zero_le _) fun k _ hk => prevT_none hpt k hk⟩
      unfold laI at hgap
      rw [hpt] at hgap
      have hgap : (t : Int) - (-1) ≤ gapOf order st := hgap
      show (t : Int) + 1 - ((0 : Nat) : Int) ≤ _
      omega
    | some p =>
      have hlt := prevT_lt hpt
      rw [startOf_some (by rw [e1]; exact hpt)]
      have hl : (goal.take (p + 1)).length = p + 1 := by rw [List.length_take]; omega
      rw [hl]
      refine ⟨by omega, rfl, ?_, next_char ht (by omega) fun k hk1 hk2 => prevT_max hpt k (by omega) hk2⟩
      unfold laI at hgap
      rw [hpt] at hgap
      have hgap : (t : Int) - (p : Int) ≤ gapOf order st := hgap
      omega
  obtain ⟨s1, s2, s3, s4⟩ := hs
  have hpoint : pointOf nds (startOf order st goal) < (some [] :: nds).length ∧ (prevT order st t = none → pointOf nds (startOf order st goal) = 0) := by
    have hmem : some (startOf order st goal) ∈ some [] :: nds := by
      rcases hp with hp | hp
      · rw [startOf_none (by rw [e1]; exact hp)]; exact List.mem_cons_self
      · exact List.mem_cons_of_mem _ hp
    refine ⟨List.idxOf_lt_length_of_mem hmem, fun hn => ?_⟩
    rw [startOf_none (by rw [e1]; exact hn)]
    unfold pointOf
    simp
  obtain ⟨hp1, hp2⟩ := hpoint
  have hat : (some [] :: nds)[pointOf nds (startOf order st goal)] = some (startOf order st goal) := List.getElem_idxOf hp1
  have hnum := numOf_bound h2 (goal.drop (startOf order st goal).length) fun x hx => hm x (List.mem_of_mem_drop hx)
  have hdg := dg_num h2 (goal.drop (startOf order st goal).length) fun x hx => hm x (List.mem_of_mem_drop hx)
  have hrl : (goal.drop (startOf order st goal).length).length = t + 1 - (startOf order st goal).length := by rw [List.length_drop, hg]
  have hann : annN size order st nds goal = some (1 + (pointOf nds (startOf order st goal) : Int) * powN size (gapOf order st).toNat + numOf size (goal.drop (startOf order st goal).length)) := by
    unfold annN
    rw [if_neg]
    rintro ⟨a, b⟩
    rcases hp with hp | hp
    · exact a (by rw [e1]; exact hp)
    · exact b hp
  have hpow : powN size (goal.drop (startOf order st goal).length).length ≤ powN size (gapOf order st).toNat := by
    obtain ⟨j, hj⟩ : ∃ j, (gapOf order st).toNat = (goal.drop (startOf order st goal).length).length + j := ⟨(gapOf order st).toNat - (goal.drop (startOf order st goal).length).length, by omega⟩
    rw [hj]
    exact pow_mono (by omega) j
  generalize hss : startOf order st goal = s at *
  generalize hpt : pointOf nds s = pt at *
  generalize hnm : numOf size (goal.drop s.length) = num at *
  have hlt : num < powN size (gapOf order st).toNat := by omega
  have hq : (1 + (pt : Int) * powN size (gapOf order st).toNat + num - 1) / powN size (gapOf order st).toNat = pt ∧ (1 + (pt : Int) * powN size (gapOf order st).toNat + num - 1) % powN size (gapOf order st).toNat = num := by
    have e : 1 + (pt : Int) * powN size (gapOf order st).toNat + num - 1 = num + pt * powN size (gapOf order st).toNat := by omega
    rw [e]
    exact ⟨by rw [Int.add_mul_ediv_right _ _ (by omega), Int.ediv_eq_zero_of_lt hnum.1 hlt, Int.zero_add], by rw [Int.add_mul_emod_self_right, Int.emod_eq_of_lt hnum.1 hlt]⟩
  have hpp : 0 ≤ (pt : Int) * powN size (gapOf order st).toNat := Int.mul_nonneg (by omega) (by omega)
  refine ⟨_, hann, ?_, by omega, ?_, by rw [List.length_cons] at hp1; omega, hp2⟩
  · unfold nodeOf
    rw [if_neg (by omega), hq.1, hq.2, if_neg (by rw [List.length_cons] at hp1; omega)]
    have hst : (if (pt : Int) = 0 then some [] else (nds[((pt : Int) - 1).toNat]?).join) = some s := by
      by_cases hz : pt = 0
      · subst hz
        rw [if_pos (by simp)]
        exact hat
      · rw [if_neg (by omega), show ((pt : Int) - 1).toNat = pt - 1 by omega]
        have e : pt = (pt - 1) + 1 := by omega
        have h3 : (some [] :: nds)[pt]? = some (some s) := by rw [List.getElem?_eq_getElem hp1, hat]
        rw [e, List.getElem?_cons_succ] at h3
        rw [h3]
        rfl
    rw [hst]
    unfold nodeAt
    simp only [s4]
    have e2 : ((t : Int) + 1 - (s.length : Int)).toNat = (goal.drop s.length).length := by omega
    rw [e2, if_pos hdg.1, hdg.2]
    have := List.take_append_drop s.length goal
    rw [← s2] at this
    rw [this]
  · rw [Int.add_mul, Int.one_mul]
    omega
end K10

open PySem PySem.Spec PyProof.Rows L2 L4
open L3 hiding loop_rng loop_rng0 comp_rng comp_rng0

/-! the stepper over trees -/
local macro_rules | `(tactic| wtm_at "sz") => `(tactic| with_unfolding_all first
  | omega
  | exact (rfl : (_ : Nat) = _)
  | (simp only [List.length_cons, List.length_nil, List.length_append, List.length_map, List.length_replicate, List.length_reverse]; first | done | omega | (unfold sizeLine; omega))
  | (unfold sizeLine; omega)
  | (unfold CMul; omega) | (unfold CDiv; omega) | (dsimp only; omega) | (unfold CPow; decide)
  | decide
  | (intro hx; cases hx; done))
local macro_rules | `(tactic| wtm_at "a1") => `(tactic| with_reducible first
  | refine And.intro (by first | assumption | wtm_at "sz") ?_
  | refine r_onL (by first | with_reducible rfl | assumption) ?_
  | refine r_onO (by with_unfolding_all rfl) ?_
  | refine r_rsv (by assumption) ?_
  | refine r_brT ?_ | refine r_brF ?_ | refine r_brN ?_)
local macro_rules | `(tactic| wtm_at "aw") => `(tactic| ((with_reducible conv => whnf); repeat ((wtm_at "a1"); (with_reducible conv => whnf))))

namespace K11
open K10
abbrev talkP (size : Int) (pr : PV) (order : List Int) : PV := .tup [.int size, pr, .tup (iL order)]
def TalkOk (size : Int) (order : List Int) : Prop := 2 ≤ size ∧ size ≤ 9 ∧ order.length ≤ 8
@[reducible] def ov : Option Int → PV
  | none => .non
  | some n => .int n
@[reducible] def ndP : Option (List Int) → PV
  | none => .non
  | some l => .tup (iL l)
def asp_power_of : AL := fun vs S P => ∃ s c : Int, vs = [.int s, .int c] ∧ 0 ≤ s ∧ s ≤ 9 ∧ 0 ≤ c ∧ c ≤ 100 ∧ P (.int (powN s c.toNat)) S
def asp_gap_of : AL := fun vs S P => ∃ size pr order st, vs = [talkP size pr order, .int st] ∧ P (.int (gapOf order st)) S
def asp_base_of : AL := fun vs S P => ∃ size pr order st, vs = [talkP size pr order, .int st] ∧ TalkOk size order ∧ P (.int (powN size (gapOf order st).toNat)) S
def asp_next_turn : AL := fun vs S P => ∃ size pr order st turn, vs = [talkP size pr order, .int st, .int turn] ∧ P (ov (nextTurn order st turn)) S
def asp_digits_of : AL := fun vs S P => ∃ n size c : Int, vs = [.int n, .int size, .int c] ∧ 2 ≤ size ∧ size ≤ 9 ∧ 0 ≤ c ∧ c ≤ 100 ∧ P (ndP (if dgL size n c.toNat = 0 then some (dgF size n c.toNat) else none)) S
section
variable {P : Program} {w : World} {K : PySem.W.Frag} {mg : Str → Option Value} {base : Heap}
theorem ok_power_of (T : Txt mg) {f : Addr} {fd : FuncData} (F : Fun K "power_of" "power_of" st_power_of f fd) : FnG P w K mg base CX0 1 f fd pl_power_of (cSp K asp_power_of) := by
  refine oa_power_of T F (fun vs S R h => ?_) (fun vs S R h => ?_)
  · obtain ⟨s, c, rfl, _⟩ := h
    rfl
  · obtain ⟨s, c, rfl, h0, h1, h2, h3, k⟩ := h
    dsimp only [sv_power_of, pk]
    wtm_at "aw"
    refine loop_rng0 (fun i ρ S' => ∃ v, ρ = [some (.int s), some (.int c), some (.int (powN s i)), v] ∧ S' = S) ⟨_, rfl, rfl⟩ ?_ ?_
    · rintro i ρ _ hi ⟨v, rfl, rfl⟩
      wtm_at "aw"
      exact ⟨_, rfl, rfl⟩
    · rintro ρ _ ⟨v, rfl, rfl⟩
      wtm_at "aw"
      exact k
theorem ok_gap_of (T : Txt mg) {f : Addr} {fd : FuncData} (F : Fun K "gap_of" "gap_of" st_gap_of f fd) : FnG P w K mg base CX0 1 f fd pl_gap_of (cSp K asp_gap_of) := by
  refine oa_gap_of T F (fun vs S R h => ?_) (fun vs S R h => ?_)
  · obtain ⟨size, pr, order, st, rfl, _⟩ := h
    rfl
  · obtain ⟨size, pr, order, st, rfl, k⟩ := h
    dsimp only [sv_gap_of, pk]
    wtm_at "aw"
    refine loop_enum (fun i ρ S' => ∃ lg la v1 v2, ρ = [some (talkP size pr order), some (.int st), some (.int lg), some (.int la), v1, v2] ∧ S' = S ∧ gapGo st (order.drop i) i lg la = gapGo st order 0 0 (-1)) ⟨_, _, _, _, rfl, rfl, rfl⟩ ?_ ?_
    · rintro i x ρ _ hi ⟨lg, la, v1, v2, rfl, rfl, hg⟩
      obtain ⟨n, hn, rfl⟩ := map_at hi
      obtain ⟨hl, hn'⟩ := List.getElem?_eq_some_iff.mp hn
      rw [List.drop_eq_getElem_cons hl, hn', gapGo_cons] at hg
      wtm_at "aw"
      refine r_br (fun h => ?_) (fun h => ?_)
      · rw [if_pos h] at hg
        wtm_at "aw"
        exact ⟨_, _, _, _, rfl, rfl, by rw [Int.natCast_succ]; exact hg⟩
      · rw [if_neg h] at hg
        wtm_at "aw"
        exact ⟨_, _, _, _, rfl, rfl, by rw [Int.natCast_succ]; exact hg⟩
    · rintro ρ _ ⟨lg, la, v1, v2, rfl, rfl, hg⟩
      wtm_at "aw"
      rw [List.length_map, List.drop_length] at hg
      have : lg = gapOf order st := by
        unfold gapOf
        rw [← hg]
        rfl
      subst this
      exact k
theorem ok_base_of (T : Txt mg) (c1 : Cg P w K mg base CX0 1 "gap_of" (cSp K asp_gap_of)) (c2 : Cg P w K mg base CX0 1 "power_of" (cSp K asp_power_of)) {f : Addr} {fd : FuncData} (F : Fun K "base_of" "base_of" st_base_of f fd) : FnG P w K mg base CX0 2 f fd pl_base_of (cSp K asp_base_of) := by
  refine oa_base_of T c1 c2 F (fun vs S R h => ?_) (fun vs S R h => ?_)
  · obtain ⟨size, pr, order, st, rfl, _⟩ := h
    rfl
  · obtain ⟨size, pr, order, st, rfl, hk, k⟩ := h
    dsimp only [sv_base_of, pk]
    have hb := gapOf_bound order st
    wtm_at "aw"
    refine ⟨_, _, _, _, rfl, ?_⟩
    exact ⟨_, _, rfl, by have := hk.1; omega, hk.2.1, hb.1, by have := hk.2.2; omega, k⟩
theorem ok_next_turn (T : Txt mg) {f : Addr} {fd : FuncData} (F : Fun K "next_turn" "next_turn" st_next_turn f fd) : FnG P w K mg base CX0 1 f fd pl_next_turn (cSp K asp_next_turn) := by
  refine oa_next_turn T F (fun vs S R h => ?_) (fun vs S R h => ?_)
  · obtain ⟨size, pr, order, st, turn, rfl, _⟩ := h
    rfl
  · obtain ⟨size, pr, order, st, turn, rfl, k⟩ := h
    dsimp only [sv_next_turn, pk]
    wtm_at "aw"
    refine loop_enum (fun i ρ S' => ∃ v1 v2, ρ = [some (talkP size pr order), some (.int st), some (.int turn), v1, v2] ∧ S' = S ∧ nextTurn order st turn = nxGo st turn (order.drop i) i) ⟨_, _, rfl, rfl, rfl⟩ ?_ ?_
    · rintro i x ρ _ hi ⟨v1, v2, rfl, rfl, hg⟩
      obtain ⟨n, hn, rfl⟩ := map_at hi
      obtain ⟨hl, hn'⟩ := List.getElem?_eq_some_iff.mp hn
      rw [List.drop_eq_getElem_cons hl, hn', nxGo] at hg
      wtm_at "aw"
      refine r_br (fun h => ?_) (fun h => ?_)
      · wtm_at "aw"
        refine r_br (fun h' => ?_) (fun h' => ?_)
        · rw [if_pos ⟨h, h'⟩] at hg
          rw [hg] at k
          wtm_at "aw"
          exact k
        · rw [if_neg fun z => h' z.2] at hg
          wtm_at "aw"
          exact ⟨_, _, rfl, rfl, hg⟩
      · rw [if_neg fun z => h z.1] at hg
        wtm_at "aw"
        exact ⟨_, _, rfl, rfl, hg⟩
    · rintro ρ _ ⟨v1, v2, rfl, rfl, hg⟩
      rw [List.length_map, List.drop_eq_nil_of_le (Nat.le_refl _), nxGo] at hg
      rw [hg] at k
      wtm_at "aw"
      exact k
theorem ok_digits_of (T : Txt mg) {f : Addr} {fd : FuncData} (F : Fun K "digits_of" "digits_of" st_digits_of f fd) : FnG P w K mg base CX0 1 f fd pl_digits_of (cSp K asp_digits_of) := by
  refine oa_digits_of T F (fun vs S R h => ?_) (fun vs S R h => ?_)
  · obtain ⟨n, sz, c, rfl, _⟩ := h
    rfl
  · obtain ⟨n, sz, c, rfl, h0, h1, h2, h3, k⟩ := h
    dsimp only [sv_digits_of, pk]
    wtm_at "aw"
    refine loop_rng0 (fun i ρ S' => ∃ v, ρ = [some (.int n), some (.int sz), some (.int c), some (.tup (iL (dgF sz n i))), some (.int (dgL sz n i)), v] ∧ S' = S) ⟨_, rfl, rfl⟩ ?_ ?_
    · rintro i ρ _ hi ⟨v, rfl, rfl⟩
      have hlen := dgF_len sz n i
      wtm_at "aw"
      exact ⟨_, by rw [List.append_nil]; rfl, rfl⟩
    · rintro ρ _ ⟨v, rfl, rfl⟩
      wtm_at "aw"
      refine r_br (fun h => ?_) (fun h => ?_)
      · rw [if_pos h] at k
        wtm_at "aw"
        exact k
      · rw [if_neg h] at k
        wtm_at "aw"
        exact k
end
end K11
namespace K11
open K10
section
variable {P : Program} {w : World} {K : PySem.W.Frag} {mg : Str → Option Value} {base : Heap}
theorem ok_deck (T : Txt mg) {f : Addr} {fd : FuncData} (F : Fun K "_law_deck" "_law_deck" st__law_deck f fd) : FnG P w K mg base CX0 1 f fd pl__law_deck (cSp K asp_deck) := by
  refine oa__law_deck T F (fun vs S R h => ?_) (fun vs S R h => ?_)
  · obtain ⟨ns, rfl, _⟩ := h
    rfl
  · obtain ⟨ns, rfl, rfl, hl, k⟩ := h
    dsimp only [sv__law_deck, pk]
    wtm_at "aw"
    obtain ⟨ms, em, hm⟩ := cut_iL ns none (some 63)
    rw [em]
    refine loop_one (fun i ρ S' => ∃ m v, ρ = [some (.scr ns), some (.lst (iL ms)), some (.int m), v] ∧ S' = [] ∧ 0 ≤ m ∧ m < 4294967296) ⟨_, _, rfl, rfl, by decide, by decide⟩ ?_ ?_
    · rintro i x ρ _ hi ⟨m, v, rfl, rfl, h0, h1⟩
      obtain ⟨n, hn, rfl⟩ := map_at hi
      wtm_at "aw"
      exact ⟨_, _, rfl, rfl, by omega, by omega⟩
    · rintro ρ _ ⟨m, v, rfl, rfl, h0, h1⟩
      wtm_at "aw"
      have e : dk ⟨ms.reverse, m, 0⟩ [] = [.lst (iL ms).reverse, .lst [.own 0, .int m, .int 0]] := by
        unfold dk dk3 iL
        rw [List.map_reverse]
      have := k ⟨ms.reverse, m, 0⟩ ⟨h0, h1, Int.le_refl _, Int.le_refl _, by show ms.reverse.length ≤ 64; rw [List.length_reverse]; omega⟩
      rw [e] at this
      exact this
theorem ok_draw (T : Txt mg) {f : Addr} {fd : FuncData} (F : Fun K "_law_draw" "_law_draw" st__law_draw f fd) : FnG P w K mg base CX0 1 f fd pl__law_draw (cSp K asp_draw) := by
  refine oa__law_draw T F (fun vs S R h => ?_) (fun vs S R h => ?_)
  · obtain ⟨D, G, n, m, rfl, _⟩ := h
    rfl
  · obtain ⟨⟨cells, m0, k0⟩, G, n, m, rfl, rfl, ⟨g1, g2, g3, g4, g5⟩, hn, hm1, hm2, k⟩ := h
    dsimp only at g1 g2 g3 g4 g5
    have hq : eqOk (.lst (iL cells)) := eqOk_iL cells
    have done : ∀ (r : Int) (cs : List Int), cs.length ≤ 64 → 0 ≤ r → r < m → R (.int r) (dk3 cs m0 (k0 + 1) G) := fun r cs hc h0 h1 => k r ⟨cs, m0, k0 + 1⟩ h0 h1 ⟨g1, g2, by show 0 ≤ k0 + 1; omega, by show k0 + 1 ≤ n + 1; omega, hc⟩
    dsimp only [sv__law_draw, pk, dk]
    wtm_at "aw"
    refine ⟨fun ρ S' => ∃ (cs : List Int) (z : Int), ρ = [some (.own 1), some (.int m), some (.int z), none] ∧ S' = dk3 cs m0 (k0 + 1) G ∧ cs.length ≤ 64, ?_, ?_⟩
    · wtm_at "aw"
      by_cases hc : cells = []
      · subst hc
        refine r_brT ?_
        wtm_at "aw"
        exact ⟨[], m0, rfl, rfl, by decide⟩
      · obtain ⟨cs, z, rfl⟩ := last_of hc
        have e : (iL (cs ++ [z])).isEmpty = false := by simp
        rw [e]
        rw [List.length_append, List.length_singleton] at g5
        wtm_at "aw"
        refine r_onO (x := .int z) (by simp) ?_
        have e2 : (iL (cs ++ [z])).dropLast = iL cs := by simp
        rw [e2]
        wtm_at "aw"
        refine r_br (fun h => ?_) (fun h => ?_)
        · wtm_at "aw"
          have := done (z % m) (cs ++ [z / m]) (by rw [List.length_append, List.length_singleton]; omega) (Int.emod_nonneg _ (by omega)) (Int.emod_lt_of_pos _ (by omega))
          have e3 : iL (cs ++ [z / m]) = iL cs ++ [.int (z / m)] := by simp
          unfold dk3 at this
          rw [e3] at this
          exact this
        · wtm_at "aw"
          exact ⟨cs, _, rfl, rfl, by omega⟩
    · rintro ρ _ ⟨cs, z, rfl, rfl, hc⟩
      wtm_at "aw"
      exact done _ cs hc (Int.emod_nonneg _ (by omega)) (Int.emod_lt_of_pos _ (by omega))
theorem ok_pick (T : Txt mg) (c1 : Cg P w K mg base CX0 1 "_law_draw" (cSp K asp_draw)) {f : Addr} {fd : FuncData} (F : Fun K "_law_pick" "_law_pick" st__law_pick f fd) : FnG P w K mg base CX0 2 f fd pl__law_pick (cSp K asp_pick) := by
  refine oa__law_pick T c1 F (fun vs S R h => ?_) (fun vs S R h => ?_)
  · obtain ⟨D, G, n, s, xs, rfl, _⟩ := h
    rfl
  · obtain ⟨D, G, n, s, xs, rfl, rfl, hD, hn, h0, h1, hs, k⟩ := h
    dsimp only [sv__law_pick, pk]
    have hs0 := hs D
    wtm_at "aw"
    refine ⟨D, G, n, _, rfl, rfl, hD, hn, by omega, by omega, fun r D' r0 r1 hD' => ?_⟩
    have hs1 := hs D'
    obtain ⟨v, hv, hv2⟩ := at_int r0 r1
    wtm_at "aw"
    exact ⟨v, hv, k v D' (List.mem_of_getElem? hv2) hD'⟩
theorem ok_order (T : Txt mg) (c1 : Cg P w K mg base CX0 1 "_law_draw" (cSp K asp_draw)) {f : Addr} {fd : FuncData} (F : Fun K "_law_order" "_law_order" st__law_order f fd) : FnG P w K mg base CX0 2 f fd pl__law_order (cSp K asp_order) := by
  refine oa__law_order T c1 F (fun vs S R h => ?_) (fun vs S R h => ?_)
  · obtain ⟨D, G, n, st, most, rfl, _⟩ := h
    rfl
  · obtain ⟨D, G, n, st, most, rfl, rfl, hD, hn, h0, h1, h2, h3, k⟩ := h
    dsimp only [sv__law_order, pk]
    wtm_at "aw"
    refine ⟨D, G, n, _, rfl, rfl, hD, by omega, by omega, by omega, fun way D1 w0 w1 hD1 => ?_⟩
    wtm_at "aw"
    refine ⟨D1, G, _, _, rfl, rfl, hD1, by omega, by omega, by omega, fun many D2 m0 m1 hD2 => ?_⟩
    wtm_at "aw"
    refine ⟨D2, G, _, _, rfl, rfl, hD2, by omega, by omega, by omega, fun fst D3 f0 f1 hD3 => ?_⟩
    wtm_at "aw"
    refine r_br (fun h => ?_) (fun h => ?_)
    · wtm_at "aw"
      rw [flat_one]
      exact k (List.replicate many.toNat fst) D3 (hD3.up (by omega)) (fun x hx => by rw [(List.mem_replicate.mp hx).2]; exact ⟨f0, f1⟩) (by rw [List.length_replicate]; omega)
    · wtm_at "aw"
      refine r_br (fun h' => ?_) (fun h' => ?_)
      · wtm_at "aw"
        refine comp_rng0 (fun i S' acc => ∃ os : List Int, S' = dk D3 G ∧ acc = iL os ∧ (∀ x ∈ os, 0 ≤ x ∧ x < st) ∧ os.length = i) ⟨[], rfl, rfl, fun _ hx => absurd hx List.not_mem_nil, rfl⟩ ?_ ?_
        · rintro i _ acc hi ⟨os, rfl, rfl, ho, hl⟩
          wtm_at "aw"
          refine ⟨os ++ [(fst + (i : Int) / way) % st], rfl, by simp, ?_, by simp [hl]⟩
          intro x hx
          rcases List.mem_append.mp hx with hx | hx
          · exact ho x hx
          · rw [List.mem_singleton.mp hx]
            exact ⟨Int.emod_nonneg _ (by omega), Int.emod_lt_of_pos _ (by omega)⟩
        · rintro _ acc ⟨os, rfl, rfl, ho, hl⟩
          wtm_at "aw"
          exact k os D3 (hD3.up (by omega)) ho (by omega)
      · wtm_at "aw"
        refine comp_rng0 (fun i S' acc => ∃ (os : List Int) (D4 : Dk), S' = dk D4 G ∧ D4.Ok (n + 3 + i) ∧ acc = iL os ∧ (∀ x ∈ os, 0 ≤ x ∧ x < st) ∧ os.length = i) ⟨[], D3, rfl, hD3.up (by omega), rfl, fun _ hx => absurd hx List.not_mem_nil, rfl⟩ ?_ ?_
        · rintro i _ acc hi ⟨os, D4, rfl, hD4, rfl, ho, hl⟩
          wtm_at "aw"
          refine ⟨D4, G, _, _, rfl, rfl, hD4, by omega, by omega, by omega, fun r D5 r0 r1 hD5 => ?_⟩
          wtm_at "aw"
          refine ⟨os ++ [r], D5, rfl, hD5.up (by omega), by simp, ?_, by simp [hl]⟩
          intro x hx
          rcases List.mem_append.mp hx with hx | hx
          · exact ho x hx
          · rw [List.mem_singleton.mp hx]
            exact ⟨r0, r1⟩
        · rintro _ acc ⟨os, D4, rfl, hD4, rfl, ho, hl⟩
          wtm_at "aw"
          exact k os D4 (hD4.up (by omega)) ho (by omega)
end
end K11
namespace K11
open K10
def asp_lpower : AL := fun vs S P => ∃ s c : Int, vs = [.int s, .int c] ∧ 0 ≤ s ∧ s ≤ 9 ∧ 0 ≤ c ∧ c ≤ 9 ∧ P (.int (powN s c.toNat)) S
def asp_lbase : AL := fun vs S P => ∃ size order st, vs = [.int size, .tup (iL order), .int st] ∧ TalkOk size order ∧ P (.int (powN size (gapOf order st).toNat)) S
theorem max_gap {st : Int} {order : List Int} {m : Int} (hm : m ∈ (0 : Int) :: difs st order 0 (-1)) (hb : ∀ y ∈ (0 : Int) :: difs st order 0 (-1), y ≤ m) : m = gapOf order st := by
  obtain ⟨a, b, c⟩ := gap_max st order 0 0 (-1)
  have z := hb 0 List.mem_cons_self
  have le : m ≤ gapOf order st := by
    rcases List.mem_cons.mp hm with h | h
    · rw [h]; exact a
    · exact b m h
  have ge : gapOf order st ≤ m := by
    rcases c with c | c
    · unfold gapOf; omega
    · exact hb _ (List.mem_cons_of_mem _ c)
  omega
section
variable {P : Program} {w : World} {K : PySem.W.Frag} {mg : Str → Option Value} {base : Heap}
theorem ok_lpower (T : Txt mg) {f : Addr} {fd : FuncData} (F : Fun K "_law_power" "_law_power" st__law_power f fd) : FnG P w K mg base CX0 1 f fd pl__law_power (cSp K asp_lpower) := by
  refine oa__law_power T F (fun vs S R h => ?_) (fun vs S R h => ?_)
  · obtain ⟨s, c, rfl, _⟩ := h
    rfl
  · obtain ⟨s, c, rfl, h0, h1, h2, h3, k⟩ := h
    dsimp only [sv__law_power, pk]
    wtm_at "aw"
    refine loop_rng0 (fun i ρ S' => ∃ v, ρ = [some (.int s), some (.int c), some (.int (powN s i)), v] ∧ S' = S) ⟨_, rfl, rfl⟩ ?_ ?_
    · rintro i ρ _ hi ⟨v, rfl, rfl⟩
      obtain ⟨p0, p1⟩ := powN_bound h0 h1 i (by omega)
      have p2 := pow9 i (by omega)
      wtm_at "aw"
      exact ⟨_, rfl, rfl⟩
    · rintro ρ _ ⟨v, rfl, rfl⟩
      wtm_at "aw"
      exact k
theorem ok_lbase (T : Txt mg) (c1 : Cg P w K mg base CX0 1 "_law_power" (cSp K asp_lpower)) {f : Addr} {fd : FuncData} (F : Fun K "_law_base" "_law_base" st__law_base f fd) : FnG P w K mg base CX0 2 f fd pl__law_base (cSp K asp_lbase) := by
  refine oa__law_base T c1 F (fun vs S R h => ?_) (fun vs S R h => ?_)
  · obtain ⟨size, order, st, rfl, _⟩ := h
    rfl
  · obtain ⟨size, order, st, rfl, ⟨k0, k1, k2⟩, k⟩ := h
    dsimp only [sv__law_base, pk]
    wtm_at "aw"
    refine comp_enum (fun i S' acc => ∃ ends, acc = iL ends ∧ S' = S ∧ ends.length ≤ i ∧ endsOf st order 0 = ends ++ endsOf st (order.drop i) i) ⟨[], rfl, rfl, Nat.le_refl _, rfl⟩ ?_ ?_
    · rintro i x _ acc hi ⟨ends, rfl, rfl, hle, he⟩
      obtain ⟨n, hn, rfl⟩ := map_at hi
      obtain ⟨hl, hn'⟩ := List.getElem?_eq_some_iff.mp hn
      rw [List.drop_eq_getElem_cons hl, hn', endsOf] at he
      wtm_at "aw"
      refine r_br (fun h => ?_) (fun h => ?_)
      · rw [if_pos h] at he
        wtm_at "aw"
        refine ⟨ends ++ [(i : Int) + 1], by simp, rfl, by simp only [List.length_append, List.length_cons, List.length_nil]; omega, ?_⟩
        rw [he, List.append_assoc]
        rfl
      · rw [if_neg h] at he
        exact ⟨ends, rfl, rfl, by omega, he⟩
    · rintro S1 acc ⟨ends, rfl, rfl, hle, he⟩
      rw [List.length_map] at hle he
      rw [List.drop_eq_nil_of_le (Nat.le_refl _)] at he
      have he : endsOf st order 0 = ends := by rw [he, endsOf, List.append_nil]
      have hdz0 := difs_zip st order 0 (-1)
      rw [he] at hdz0
      have hdz : ((0 : Int) :: ends).zipWith (fun a b => b - a) ends = difs st order 0 (-1) := hdz0
      wtm_at "aw"
      refine comp_zip (xs := iL ((0 : Int) :: ends)) (fun i S' acc => ∃ _ : Unit, acc = iL ((((0 : Int) :: ends).zipWith (fun a b => b - a) ends).take i) ∧ S' = S1) ⟨(), rfl, rfl⟩ ?_ ?_
      · rintro i x y _ acc hx hy ⟨_, rfl, rfl⟩
        obtain ⟨n, hn, rfl⟩ := map_at hx
        obtain ⟨m, hm, rfl⟩ := map_at hy
        have hi := (List.getElem?_eq_some_iff.mp hm).1
        have hlt : (iL (List.take i (((0 : Int) :: ends).zipWith (fun a b => b - a) ends))).length < sizeLine := by
          rw [List.length_map, List.length_take]; unfold sizeLine; omega
        wtm_at "aw"
        exact ⟨(), by rw [take_one (zipW_get hn hm), ← iL_snoc], rfl⟩
      · rintro _ acc ⟨_, rfl, rfl⟩
        rw [List.take_of_length_le (by simp only [List.length_zipWith, List.length_map]; exact Nat.le_refl _), hdz]
        have hdl : (difs st order 0 (-1)).length ≤ 8 := by rw [← hdz, List.length_zipWith]; omega
        wtm_at "aw"
        refine ⟨(0 : Int) :: difs st order 0 (-1), rfl, by simp, fun m hm hmx => ?_⟩
        have hgm := max_gap hm hmx
        obtain ⟨g0, g1⟩ := gapOf_bound order st
        rw [hgm]
        exact ⟨_, _, rfl, by omega, k1, by omega, by omega, k⟩
end
end K11
namespace K11
open K10
abbrev nL (nds : List (Option (List Int))) : List PV := nds.map ndP
def asp_node_of : AL := fun vs S P => ∃ size pr order st sym nds, vs = [talkP size pr order, .int st, .int sym, .tup (nL nds)] ∧ TalkOk size order ∧ 0 ≤ sym ∧ NdOk nds ∧ P (ndP (nodeOf size order st sym nds)) S
def asp_denoted : AL := fun vs S P => ∃ size pr order st syms, vs = [talkP size pr order, .int st, .tup (iL syms)] ∧ TalkOk size order ∧ (∀ s ∈ syms, 0 ≤ s) ∧ syms.length ≤ 100 ∧ P (.tup (nL (nodesOf size order st syms))) S
theorem base_bound {size : Int} {order : List Int} (hk : TalkOk size order) (st : Int) : 1 ≤ powN size (gapOf order st).toNat ∧ powN size (gapOf order st).toNat ≤ 43046721 := by
  obtain ⟨k0, k1, k2⟩ := hk
  obtain ⟨g0, g1⟩ := gapOf_bound order st
  exact ⟨powN_pos (by omega) _, Int.le_trans (powN_bound (by omega) k1 _ (by omega)).2 (pow9 _ (by omega))⟩
section
variable {P : Program} {w : World} {K : PySem.W.Frag} {mg : Str → Option Value} {base : Heap}
theorem ok_node_of (T : Txt mg) (c1 : Cg P w K mg base CX0 2 "base_of" (cSp K asp_base_of)) (c2 : Cg P w K mg base CX0 1 "digits_of" (cSp K asp_digits_of)) (c3 : Cg P w K mg base CX0 1 "next_turn" (cSp K asp_next_turn)) {f : Addr} {fd : FuncData} (F : Fun K "node_of" "node_of" st_node_of f fd) : FnG P w K mg base CX0 3 f fd pl_node_of (cSp K asp_node_of) := by
  refine oa_node_of T c1 c2 c3 F (fun vs S R h => ?_) (fun vs S R h => ?_)
  · obtain ⟨size, pr, order, st, sym, nds, rfl, _⟩ := h
    rfl
  · obtain ⟨size, pr, order, st, sym, nds, rfl, hk, h0, hn, k⟩ := h
    dsimp only [sv_node_of, pk]
    wtm_at "aw"
    refine r_br (fun h => ?_) (fun h => ?_)
    · rw [nodeOf, if_pos h] at k
      wtm_at "aw"
      exact k
    · rw [nodeOf, if_neg h] at k
      wtm_at "aw"
      refine ⟨_, _, _, _, rfl, hk, ?_⟩
      obtain ⟨hb1, hb2⟩ := base_bound hk st
      generalize powN size (gapOf order st).toNat = b at k hb1 hb2 ⊢
      wtm_at "aw"
      refine r_br (fun h3 => ?_) (fun h3 => ?_)
      · rw [List.length_map] at h3
        rw [if_pos h3] at k
        wtm_at "aw"
        exact k
      · rw [List.length_map] at h3
        rw [if_neg h3] at k
        have hq0 : 0 ≤ (sym - 1) / b := Int.ediv_nonneg (by omega) (by omega)
        generalize (sym - 1) / b = q at k h3 hq0 ⊢
        generalize (sym - 1) % b = r at k ⊢
        wtm_at "aw"
        have hs : ∀ l, (if q = 0 then some [] else (nds[(q - 1).toNat]?).join) = some l → l.length ≤ 8 := by
          intro l e
          split at e
          · cases e; exact Nat.zero_le _
          · cases z : nds[(q - 1).toNat]? with
            | none => rw [z] at e; cases e
            | some m =>
              rw [z] at e
              have e : m = some l := e
              exact (hn l (by rw [← e]; exact List.mem_of_getElem? z)).1
        refine ⟨fun v S' => ∃ _ : Unit, v = ndP (if q = 0 then some [] else (nds[(q - 1).toNat]?).join) ∧ S' = S, ?_, ?_⟩
        · wtm_at "aw"
          refine r_br (fun h4 => ?_) (fun h4 => ?_)
          · wtm_at "aw"
            exact ⟨(), by rw [if_pos h4]; rfl, rfl⟩
          · wtm_at "aw"
            obtain ⟨v, hv, hv2⟩ := at_int (xs := nL nds) (i := q - 1) (by omega) (by rw [List.length_map]; omega)
            refine r_onO hv ⟨(), ?_, rfl⟩
            rw [if_neg h4]
            obtain ⟨m, hm, rfl⟩ := map_at hv2
            rw [hm]
            rfl
        · rintro v S1 ⟨_, rfl, rfl⟩
          generalize (if q = 0 then some [] else (nds[(q - 1).toNat]?).join) = stt at k hs ⊢
          cases stt with
          | none =>
            wtm_at "aw"
            refine ⟨fun v S' => ∃ _ : Unit, v = .non ∧ S' = S1, ?_, ?_⟩
            · wtm_at "aw"
              exact ⟨(), rfl, rfl⟩
            · rintro v _ ⟨_, rfl, rfl⟩
              wtm_at "aw"
              exact k
          | some s =>
            have hs8 := hs s rfl
            wtm_at "aw"
            refine ⟨fun v S' => ∃ _ : Unit, v = ov (nextTurn order st s.length) ∧ S' = S1, ?_, ?_⟩
            · wtm_at "aw"
              refine ⟨_, _, _, _, _, rfl, ?_⟩
              rw [List.length_map]
              exact ⟨(), rfl, rfl⟩
            · rintro v S2 ⟨_, rfl, rfl⟩
              unfold nodeAt at k
              cases hx : nextTurn order st s.length with
              | none =>
                simp only [hx] at k
                wtm_at "aw"
                exact k
              | some t =>
                simp only [hx] at k
                have hb := nxGo_bound hx
                have h8 := hk.2.2
                wtm_at "aw"
                rw [List.length_map]
                refine ⟨_, _, _, rfl, hk.1, hk.2.1, by omega, by omega, ?_⟩
                have hl := dgF_len size r (t + 1 - (s.length : Int)).toNat
                by_cases hz : dgL size r (t + 1 - (s.length : Int)).toNat = 0
                · rw [if_pos hz] at k ⊢
                  wtm_at "aw"
                  have e : iL s ++ (iL (dgF size r (t + 1 - (s.length : Int)).toNat) ++ []) = iL (s ++ dgF size r (t + 1 - (s.length : Int)).toNat) := by simp
                  rw [e]
                  exact k
                · rw [if_neg hz] at k ⊢
                  wtm_at "aw"
                  exact k
theorem ok_denoted (T : Txt mg) (c1 : Cg P w K mg base CX0 3 "node_of" (cSp K asp_node_of)) {f : Addr} {fd : FuncData} (F : Fun K "denoted" "denoted" st_denoted f fd) : FnG P w K mg base CX0 4 f fd pl_denoted (cSp K asp_denoted) := by
  refine oa_denoted T c1 F (fun vs S R h => ?_) (fun vs S R h => ?_)
  · obtain ⟨size, pr, order, st, syms, rfl, _⟩ := h
    rfl
  · obtain ⟨size, pr, order, st, syms, rfl, hk, h0, hl, k⟩ := h
    dsimp only [sv_denoted, pk]
    wtm_at "aw"
    refine loop_one (fun i ρ S' => ∃ v, ρ = [some (talkP size pr order), some (.int st), some (.tup (iL syms)), some (.tup (nL (nodesOf size order st (syms.take i)))), v] ∧ S' = S) ⟨_, rfl, rfl⟩ ?_ ?_
    · rintro i x ρ _ hi ⟨v, rfl, rfl⟩
      obtain ⟨n, hn, rfl⟩ := map_at hi
      have hnl : (nodesOf size order st (syms.take i)).length ≤ 100 := by rw [nodesOf_len, List.length_take]; omega
      wtm_at "aw"
      refine ⟨_, _, _, _, _, _, rfl, hk, h0 n (List.mem_of_getElem? hn), nodesOf_ok hk.1 hk.2.1 hk.2.2 _, ?_⟩
      have e : nL (nodesOf size order st (syms.take (i + 1))) = nL (nodesOf size order st (syms.take i)) ++ [ndP (nodeOf size order st n (nodesOf size order st (syms.take i)))] := by
        rw [take_one hn, nodesOf_snoc]
        exact List.map_append
      wtm_at "aw"
      exact ⟨_, by rw [e], rfl⟩
    · rintro ρ _ ⟨v, rfl, rfl⟩
      rw [List.length_map, List.take_of_length_le (Nat.le_refl _)]
      wtm_at "aw"
      exact k
end
end K11
namespace K11
open K10
def asp_lnode : AL := fun vs S P => ∃ size order st sym k nds, vs = [.int size, .tup (iL order), .int st, .int sym, .own k] ∧ sget S k = some (nL nds) ∧ nds.length ≤ 100 ∧ TalkOk size order ∧ 0 ≤ sym ∧ NdOk nds ∧ P (ndP (nodeOf size order st sym nds)) S
def asp_lnodes : AL := fun vs S P => ∃ size order st syms x, vs = [.int size, .tup (iL order), .int st, x] ∧ (x = .tup (iL syms) ∨ ∃ k, x = .own k ∧ sget S k = some (iL syms)) ∧ TalkOk size order ∧ (∀ s ∈ syms, 0 ≤ s) ∧ syms.length ≤ 100 ∧ P (.own S.length) (S ++ [.lst (nL (nodesOf size order st syms))])
theorem sget_app {S : Sto} {k : Nat} {xs : List PV} (h : sget S k = some xs) (T : Sto) : sget (S ++ T) k = some xs := by
  induction S generalizing k with
  | nil => cases h
  | cons o S ih =>
    cases o
    cases k with
    | zero => exact h
    | succ k => exact ih h
/-- where a symbol points -/
def ptr (q sym : Int) (nds : List (Option (List Int))) : Option (List Int) := if sym = 0 then none else if ((nds.length : Nat) : Int) < q then none else if q = 0 then some [] else (nds[(q - 1).toNat]?).join
theorem nodeOf_alt (size : Int) (order : List Int) (st sym : Int) (nds : List (Option (List Int))) : nodeOf size order st sym nds = nodeAt size order st ((sym - 1) % powN size (gapOf order st).toNat) (ptr ((sym - 1) / powN size (gapOf order st).toNat) sym nds) := by
  unfold nodeOf ptr
  split
  · rfl
  · split
    · rfl
    · rfl
theorem ptr_ok {q sym : Int} {nds : List (Option (List Int))} (h : NdOk nds) {l : List Int} (e : ptr q sym nds = some l) : l.length ≤ 8 := by
  unfold ptr at e
  split at e
  · cases e
  split at e
  · cases e
  split at e
  · cases e; exact Nat.zero_le _
  · cases z : nds[(q - 1).toNat]? with
    | none => rw [z] at e; cases e
    | some m =>
      rw [z] at e
      have e : m = some l := e
      exact (h l (by rw [← e]; exact List.mem_of_getElem? z)).1
theorem pow_div {size : Int} (h : 1 ≤ size) (j : Nat) : powN size (j + 1) / size = powN size j := by
  rw [powN]
  exact Int.mul_ediv_cancel _ (by omega)
theorem pow_le {size : Int} (h : 1 ≤ size) (h9 : size ≤ 9) (j : Nat) (hj : j ≤ 8) : 1 ≤ powN size j ∧ powN size j ≤ 43046721 := ⟨powN_pos h _, Int.le_trans (powN_bound (by omega) h9 j hj).2 (pow9 j hj)⟩
section
variable {P : Program} {w : World} {K : PySem.W.Frag} {mg : Str → Option Value} {base : Heap}
theorem ok_lnode (T : Txt mg) (c1 : Cg P w K mg base CX0 2 "_law_base" (cSp K asp_lbase)) (c2 : Cg P w K mg base CX0 1 "_law_power" (cSp K asp_lpower)) {f : Addr} {fd : FuncData} (F : Fun K "_law_node" "_law_node" st__law_node f fd) : FnG P w K mg base CX0 3 f fd pl__law_node (cSp K asp_lnode) := by
  refine oa__law_node T c1 c2 F (fun vs S R h => ?_) (fun vs S R h => ?_)
  · obtain ⟨size, order, st, sym, k, nds, rfl, _⟩ := h
    rfl
  · obtain ⟨size, order, st, sym, kk, nds, rfl, hS, hnl, hk, h0, hn, k⟩ := h
    rw [nodeOf_alt] at k
    dsimp only [sv__law_node, pk]
    wtm_at "aw"
    refine ⟨_, _, _, rfl, hk, ?_⟩
    obtain ⟨hb1, hb2⟩ := base_bound hk st
    generalize powN size (gapOf order st).toNat = b at k hb1 hb2 ⊢
    wtm_at "aw"
    have hq0 : sym ≠ 0 → 0 ≤ (sym - 1) / b := fun h => Int.ediv_nonneg (by omega) (by omega)
    have hr0 : 0 ≤ (sym - 1) % b := Int.emod_nonneg _ (by omega)
    generalize (sym - 1) / b = q at k hq0 ⊢
    generalize (sym - 1) % b = r at k hr0 ⊢
    refine ⟨fun v S' => ∃ _ : Unit, v = ndP (ptr q sym nds) ∧ S' = S, ?_, ?_⟩
    · wtm_at "aw"
      refine r_br (fun h => ?_) (fun h => ?_)
      · wtm_at "aw"
        refine r_br (fun h1 => ?_) (fun h1 => ?_)
        · wtm_at "aw"
          rw [List.length_map] at h1
          have hq := hq0 (by omega)
          obtain ⟨v, hv, hv2⟩ := at_int (xs := [PV.tup []] ++ nL nds) (i := q) (by omega) (by rw [List.length_append, List.length_map, List.length_singleton]; omega)
          refine r_onO hv ⟨(), ?_, rfl⟩
          unfold ptr
          rw [if_neg (by omega), if_neg (by omega)]
          by_cases hz : q = 0
          · rw [if_pos hz]
            subst hz
            cases hv2
            rfl
          · rw [if_neg hz]
            have e : q.toNat = (q - 1).toNat + 1 := by omega
            rw [e] at hv2
            have hv2 : (nL nds)[(q - 1).toNat]? = some v := hv2
            obtain ⟨m, hm, rfl⟩ := map_at hv2
            rw [hm]
            rfl
        · wtm_at "aw"
          rw [List.length_map] at h1
          refine ⟨(), ?_, rfl⟩
          unfold ptr
          rw [if_neg (by omega), if_pos (by omega)]
      · wtm_at "aw"
        refine ⟨(), ?_, rfl⟩
        unfold ptr
        rw [if_pos (by omega)]
    · rintro v S1 ⟨_, rfl, rfl⟩
      have hp8 : ∀ l, ptr q sym nds = some l → l.length ≤ 8 := fun l e => ptr_ok hn e
      generalize ptr q sym nds = stt at k hp8 ⊢
      cases stt with
      | none =>
        wtm_at "aw"
        exact k
      | some s =>
        have hs8 := hp8 s rfl
        have ho8 := hk.2.2
        wtm_at "aw"
        rw [List.length_map, List.length_map]
        refine comp_rng (fun i S' acc => ∃ L, acc = iL L ∧ S' = S1 ∧ L.length ≤ i ∧ latGo st (order.drop s.length) s.length = L ++ latGo st (order.drop (s.length + i)) ((s.length + i : Nat) : Int)) ⟨[], rfl, rfl, Nat.le_refl _, rfl⟩ ?_ ?_
        · rintro i _ acc hi ⟨L, rfl, rfl, hL, hl⟩
          have hlt : s.length + i < order.length := by omega
          rw [List.drop_eq_getElem_cons hlt, latGo] at hl
          have hv : atI (iL order) ((s.length : Int) + (i : Int)) = some (.int order[s.length + i]) := by
            have := at_nat (xs := iL order) (j := s.length + i) (x := .int order[s.length + i]) (by rw [List.getElem?_map, List.getElem?_eq_getElem hlt]; rfl)
            rw [← this]
            congr 1
          wtm_at "aw"
          refine r_onO hv ?_
          wtm_at "aw"
          refine r_br (fun h => ?_) (fun h => ?_)
          · rw [if_pos h] at hl
            wtm_at "aw"
            refine ⟨L ++ [(s.length : Int) + (i : Int)], by simp, rfl, by simp only [List.length_append, List.length_cons, List.length_nil]; omega, ?_⟩
            rw [hl, List.append_assoc]
            congr 1
          · rw [if_neg h] at hl
            exact ⟨L, rfl, rfl, by omega, by rw [hl]; congr 1⟩
        · rintro S2 acc ⟨L, rfl, rfl, hL, hl⟩
          have hd : order.drop (s.length + ((order.length : Int) - (s.length : Int)).toNat) = [] := List.drop_eq_nil_of_le (by omega)
          rw [hd, latGo, List.append_nil] at hl
          have hx : nextTurn order st s.length = L.head? := by rw [next_lat, hl]
          have hqk : eqOk (.lst (iL L)) := eqOk_iL L
          unfold nodeAt at k
          wtm_at "aw"
          cases L with
          | nil =>
            have hx : nextTurn order st s.length = none := hx
            simp only [hx] at k
            refine r_brT ?_
            wtm_at "aw"
            exact k
          | cons t L =>
            have hx : nextTurn order st s.length = some t := hx
            simp only [hx] at k
            have hb := nxGo_bound hx
            refine r_brF ?_
            wtm_at "aw"
            refine r_onO (at_zeroI t L) ?_
            wtm_at "aw"
            rw [List.length_map]
            refine ⟨_, _, rfl, by have := hk.1; omega, hk.2.1, by omega, by omega, ?_⟩
            have h1 : 1 ≤ size := by have := hk.1; omega
            obtain ⟨kp, hkp⟩ : ∃ kp : Nat, (t - (s.length : Int)).toNat = kp ∧ kp ≤ 8 := ⟨_, rfl, by omega⟩
            obtain ⟨hkp, hkp8⟩ := hkp
            rw [hkp]
            wtm_at "aw"
            refine r_onO (at_zeroI t L) ?_
            wtm_at "aw"
            rw [List.length_map]
            have e1 : (t + 1 - (s.length : Int)).toNat = kp + 1 := by omega
            rw [e1] at k ⊢
            refine loop_rng0 (fun i ρ S' => ∃ v letters rest place, ρ = [some (.int size), some (.tup (iL order)), some (.int st), some (.int sym), some (.own kk), some (.int b), some (.int q), some (.int rest), some (.tup (iL s)), v, some (.lst (iL (t :: L))), some (.tup (iL letters)), some (.int place)] ∧ S' = S2 ∧ letters.length = i ∧
              ((i ≤ kp ∧ place = powN size (kp - i) ∧ letters ++ frF size rest (kp - i) = frF size r kp) ∨ (i = kp + 1 ∧ letters = frF size r kp))) ⟨_, [], r, _, rfl, rfl, rfl, .inl ⟨Nat.zero_le _, rfl, rfl⟩⟩ ?_ ?_
            · rintro i ρ _ hi ⟨v, letters, rest, place, rfl, rfl, hll, h⟩
              rcases h with ⟨h2, rfl, h3⟩ | ⟨h2, h3⟩
              · obtain ⟨p1, p2⟩ := pow_le h1 hk.2.1 (kp - i) (by omega)
                have hk9 := hk.2.1
                wtm_at "aw"
                refine ⟨_, letters ++ [rest / powN size (kp - i)], _, _, by rw [← iL_snoc], rfl, by simp [hll], ?_⟩
                by_cases hik : i = kp
                · refine .inr ⟨by omega, ?_⟩
                  rw [← h3]
                  have : kp - i = 0 := by omega
                  rw [this]
                  rfl
                · refine .inl ⟨by omega, ?_, ?_⟩
                  · have : kp - i = (kp - (i + 1)) + 1 := by omega
                    rw [this]
                    exact pow_div h1 _
                  · rw [← h3]
                    have : kp - i = (kp - (i + 1)) + 1 := by omega
                    rw [this, frF, List.append_assoc]
                    rfl
              · omega
            · rintro ρ S3 ⟨v, letters, rest, place, rfl, rfl, hll, h⟩
              have hle : letters = frF size r kp := by
                rcases h with ⟨h2, _⟩ | ⟨_, h3⟩
                · omega
                · exact h3
              subst hle
              have hlen := frF_len (size := size) kp r
              have hat : atI (iL (frF size r kp)) 0 = some (.int (r / powN size kp)) := by
                rw [frF_dg h1]
                exact at_zeroI _ _
              wtm_at "aw"
              refine r_onO hat ?_
              wtm_at "aw"
              refine r_br (fun h => ?_) (fun h => ?_)
              · obtain ⟨f1, f2⟩ := fr_fits hk.1 hr0 h
                rw [if_pos f1, f2] at k
                wtm_at "aw"
                have e : iL s ++ iL (frF size r kp) = iL (s ++ frF size r kp) := by simp
                rw [e]
                exact k
              · rw [if_neg (fr_not hk.1 hr0 h)] at k
                wtm_at "aw"
                exact k
theorem ok_lnodes (T : Txt mg) (c1 : Cg P w K mg base CX0 3 "_law_node" (cSp K asp_lnode)) {f : Addr} {fd : FuncData} (F : Fun K "_law_nodes" "_law_nodes" st__law_nodes f fd) : FnG P w K mg base CX0 4 f fd pl__law_nodes (cSp K asp_lnodes) := by
  refine oa__law_nodes T c1 F (fun vs S R h => ?_) (fun vs S R h => ?_)
  · obtain ⟨size, order, st, syms, x, rfl, _⟩ := h
    rfl
  · obtain ⟨size, order, st, syms, x, rfl, hx, hk, h0, hl, k⟩ := h
    dsimp only [sv__law_nodes, pk]
    have body : ∀ C : Sto → Prop, (∀ X, C (S ++ [.lst X])) → ∀ v, aLoop C ((iL syms).map .one) (gaName 5) (aDrop (aBM vAppend (aVar 4) (aCons (aCB asp_lnode (aCons (aVar 0) (aCons (aVar 1) (aCons (aVar 2) (aCons (aVar 5) (aCons (aVar 4) aNil)))))) aNil)))
        { nx := aRet (aVar 4) { nx := fun _ S => R .non S, rt := R }, rt := R } [some (.int size), some (.tup (iL order)), some (.int st), some x, some (.own S.length), v] (S ++ [.lst []]) := by
      intro C hC v
      refine loop_inv (fun i ρ S' => ∃ v, ρ = [some (.int size), some (.tup (iL order)), some (.int st), some x, some (.own S.length), v] ∧ S' = S ++ [.lst (nL (nodesOf size order st (syms.take i)))]) ⟨_, rfl, rfl⟩ (fun i ρ S' ⟨_, _, e⟩ => by rw [e]; exact hC _) ?_ ?_
      · rintro i x ρ _ hi ⟨v, rfl, rfl⟩
        obtain ⟨y, hy, rfl⟩ := one_get hi
        obtain ⟨n, hn, rfl⟩ := map_at hy
        have hg := sget_new S (nL (nodesOf size order st (syms.take i)))
        have hnl : (nodesOf size order st (syms.take i)).length ≤ 100 := by rw [nodesOf_len, List.length_take]; omega
        wtm_at "aw"
        refine ⟨_, _, _, _, _, _, rfl, hg, hnl, hk, h0 n (List.mem_of_getElem? hn), nodesOf_ok hk.1 hk.2.1 hk.2.2 _, ?_⟩
        wtm_at "aw"
        rw [sput_new]
        refine ⟨_, rfl, ?_⟩
        rw [take_one hn, nodesOf_snoc]
        congr 2
        exact congrArg AO.lst (by simp)
      · rintro ρ _ ⟨v, rfl, rfl⟩
        rw [List.length_map, List.length_map, List.take_of_length_le (Nat.le_refl _)]
        wtm_at "aw"
        exact k
    rcases hx with rfl | ⟨kk, rfl, hkk⟩
    · wtm_at "aw"
      exact body cT (fun _ => trivial) _
    · have hk0 := sget_app hkk [.lst []]
      wtm_at "aw"
      exact body _ (fun X => sget_app hkk [.lst X]) _
end
end K11
namespace K11
open K10
open K10
theorem Lay.nd {n : Option (List Int)} : Lay 1 (ndP n) := by
  cases n with
  | none => exact .non
  | some l => exact Lay.tup Lay.ints
theorem Lay.nL {nds : List (Option (List Int))} : ∀ x ∈ nL nds, Lay 1 x := fun x hx => by
  obtain ⟨n, _, rfl⟩ := List.mem_map.mp hx
  exact Lay.nd
theorem eqv_nd (a : Option (List Int)) (s : List Int) : PyData.eqv (dat (ndP a)) (dat (.tup (iL s))) = decide (a = some s) := by
  cases a with
  | none => simp [dat, PyData.eqv]
  | some l => rw [eqv_iT]; simp
abbrev tL (ls : List (List Int)) : List PV := ls.map fun l => .tup (iL l)
theorem Lay.tL {ls : List (List Int)} : ∀ x ∈ tL ls, Lay 1 x := fun x hx => by
  obtain ⟨n, _, rfl⟩ := List.mem_map.mp hx
  exact Lay.tup Lay.ints
end K11
namespace K11
open K10
open K10
def asp_lann : AL := fun vs S P => ∃ size order st k nds goal, vs = [.int size, .tup (iL order), .int st, .own k, .tup (iL goal)] ∧ sget S k = some (nL nds) ∧ nds.length ≤ 200 ∧ TalkOk size order ∧ goal ≠ [] ∧ goal.length ≤ order.length ∧ P (ov (annN size order st nds goal)) S
theorem start_len (order : List Int) (st : Int) (goal : List Int) : (startOf order st goal).length ≤ goal.length - 1 := by
  unfold startOf
  cases h : prevT order st (goal.length - 1) with
  | none => exact Nat.zero_le _
  | some k =>
    have := prevT_lt h
    show (goal.take (k + 1)).length ≤ _
    rw [List.length_take]
    omega
theorem first_point {nds : List (Option (List Int))} {s : List Int} (h : s = [] ∨ some s ∈ nds) : FirstAt ([PV.tup []] ++ nL nds) (.tup (iL s)) (pointOf nds s) := by
  have hm : some s ∈ some [] :: nds := by
    rcases h with rfl | h
    · exact List.mem_cons_self
    · exact List.mem_cons_of_mem _ h
  have hlt : pointOf nds s < (some [] :: nds).length := List.idxOf_lt_length_of_mem hm
  have e : [PV.tup []] ++ nL nds = nL (some [] :: nds) := rfl
  rw [e]
  refine ⟨⟨ndP (some s), ?_, ?_⟩, fun m z hm2 e2 => ?_⟩
  · rw [List.getElem?_map, List.getElem?_eq_getElem hlt]
    have : (some [] :: nds)[pointOf nds s] = some s := List.getElem_idxOf hlt
    rw [this]
    rfl
  · rw [eqv_nd]
    simp
  · obtain ⟨n, hn, rfl⟩ := map_at e2
    rw [eqv_nd]
    have hne : n ≠ some s := fun z => by
      subst z
      obtain ⟨h1, h2⟩ := List.getElem?_eq_some_iff.mp hn
      have := List.not_of_lt_findIdx (p := fun x => x == some s) (xs := some [] :: nds) (i := m) hm2
      rw [h2] at this
      simp at this
    simp [hne]
theorem any_mem {nds : List (Option (List Int))} {s : List Int} : ((nL nds).any fun z => PyData.eqv (dat z) (dat (.tup (iL s)))) = decide (some s ∈ nds) := by
  rw [List.any_map]
  rw [Bool.eq_iff_iff, List.any_eq_true, decide_eq_true_iff]
  constructor
  · rintro ⟨x, hx, e⟩
    have e : PyData.eqv (dat (ndP x)) (dat (.tup (iL s))) = true := e
    rw [eqv_nd, decide_eq_true_iff] at e
    rw [← e]
    exact hx
  · intro h
    exact ⟨some s, h, by show PyData.eqv (dat (ndP (some s))) (dat (.tup (iL s))) = true; rw [eqv_nd]; simp⟩
section
variable {P : Program} {w : World} {K : PySem.W.Frag} {mg : Str → Option Value} {base : Heap}
theorem ok_lann (T : Txt mg) (c1 : Cg P w K mg base CX0 2 "_law_base" (cSp K asp_lbase)) {f : Addr} {fd : FuncData} (F : Fun K "_law_announced" "_law_announced" st__law_announced f fd) : FnG P w K mg base CX0 3 f fd pl__law_announced (cSp K asp_lann) := by
  refine oa__law_announced T c1 F (fun vs S R h => ?_) (fun vs S R h => ?_)
  · obtain ⟨size, order, st, k, nds, goal, rfl, _⟩ := h
    rfl
  · obtain ⟨size, order, st, kk, nds, goal, rfl, hS, hnl, hk, hne, hgl, k⟩ := h
    have hpos : 0 < goal.length := List.length_pos_iff.mpr hne
    have hk2 := hk
    obtain ⟨k0, k1, k2⟩ := hk2
    dsimp only [sv__law_announced, pk]
    wtm_at "aw"
    rw [List.length_map]
    refine comp_rng0 (fun i S' acc => ∃ _ : Unit, acc = iL (turnsT order st i) ∧ S' = S) ⟨(), rfl, rfl⟩ ?_ ?_
    · rintro i S1 acc hi ⟨_, rfl, rfl⟩
      have hlt : i < order.length := by omega
      have he := List.getElem?_eq_getElem hlt
      have hv : atI (iL order) (i : Int) = some (.int order[i]) := at_nat (by rw [List.getElem?_map, he]; rfl)
      have htl := turns_len order st i
      wtm_at "aw"
      refine r_onO hv ?_
      wtm_at "aw"
      refine r_br (fun h => ?_) (fun h => ?_)
      · wtm_at "aw"
        refine ⟨(), ?_, rfl⟩
        rw [turnsT, if_pos (by rw [he, h]), iL_snoc]
      · refine ⟨(), ?_, rfl⟩
        rw [turnsT, if_neg (by rw [he]; simpa using h)]
    · rintro S1 acc ⟨_, rfl, rfl⟩
      have en : ((goal.length : Int) - 1).toNat = goal.length - 1 := by omega
      rw [en]
      have hsl := start_len order st goal
      have hst : ∀ g, goal.length = g → startOf order st goal = match prevT order st (g - 1) with | none => [] | some k => goal.take (k + 1) := fun g e => by rw [← e]; rfl
      have hst := hst _ rfl
      have hq : eqOk (.lst (iL (turnsT order st (goal.length - 1)))) := eqOk_iL _
      unfold annN at k
      have hlast := turns_last order st (goal.length - 1)
      have htl := turns_len order st (goal.length - 1)
      generalize turnsT order st (goal.length - 1) = ts at hlast hq htl ⊢
      wtm_at "aw"
      refine ⟨fun v S' => ∃ _ : Unit, v = .tup (iL (startOf order st goal)) ∧ S' = S1, ?_, ?_⟩
      · wtm_at "aw"
        rcases hlast with ⟨rfl, hp⟩ | ⟨init, t, rfl, hp⟩
        · refine r_brT ?_
          wtm_at "aw"
          exact ⟨(), by rw [hst, hp]; rfl, rfl⟩
        · have ee : (iL (init ++ [(t : Int)])).isEmpty = false := by simp
          rw [ee]
          refine r_brF ?_
          wtm_at "aw"
          refine r_onO (x := .int (t : Nat)) (by rw [← iL_snoc]; exact at_last _ _) ?_
          wtm_at "aw"
          refine ⟨(), ?_, rfl⟩
          rw [cut_take _ (by omega), hst, hp]
          show PV.tup ((iL goal).take _) = .tup (iL (goal.take (t + 1)))
          rw [show ((t : Int) + 1).toNat = t + 1 by omega]
          exact congrArg PV.tup List.map_take.symm
      · rintro v S2 ⟨_, rfl, rfl⟩
        have hqs : eqOk (.tup (iL (startOf order st goal))) := eqOk_iT _
        have hqn : eqOk (.lst (nL nds)) := (Lay.lst Lay.nL).ok (k := 2) (by decide)
        have hqn2 : eqOk (.lst ([PV.tup []] ++ nL nds)) := (Lay.lst (xs := nL (some [] :: nds)) Lay.nL).ok (k := 2) (by decide)
        have hlen : (startOf order st goal).length ≤ 8 := by omega
        wtm_at "aw"
        generalize hem : (iL ts).isEmpty = em at *
        rcases hlast with ⟨hts, hp⟩ | ⟨init, t, hts, hp⟩
        · have : em = true := by rw [← hem, hts]; rfl
          subst this
          have hmem : startOf order st goal = [] ∨ some (startOf order st goal) ∈ nds := .inl (by rw [hst, hp])
          rw [if_neg (fun z => z.1 hp)] at k
          refine r_brT ?_
          wtm_at "aw"
          rw [List.length_map, cut_from _ (by omega)]
          have ed : (iL goal).drop (((startOf order st goal).length : Nat) : Int).toNat = iL (goal.drop (startOf order st goal).length) := by
            rw [Int.toNat_natCast]; exact List.map_drop.symm
          rw [ed]
          have hpt := pointOf_le (nds := nds) (s := startOf order st goal)
          have hfp := first_point hmem
          obtain ⟨hb1, hb2⟩ := base_bound hk st
          generalize goal.drop (startOf order st goal).length = rest at k ⊢
          generalize startOf order st goal = s at k hqs hpt hfp ⊢
          refine loop_one (fun i ρ S' => ∃ v8 v9 v10, ρ = [some (.int size), some (.tup (iL order)), some (.int st), some (.own kk), some (.tup (iL goal)), some (.lst (iL ts)), some (.tup (iL s)), some (.int (numOf size (rest.take i))), v8, v9, v10] ∧ S' = S2) ⟨_, _, _, rfl, rfl⟩ ?_ ?_
          · rintro i x ρ S3 hi ⟨v8, v9, v10, rfl, rfl⟩
            obtain ⟨n, hn, rfl⟩ := map_at hi
            wtm_at "aw"
            exact ⟨_, _, _, by rw [take_oneG hn, numOf_snoc], rfl⟩
          · rintro ρ S3 ⟨v8, v9, v10, rfl, rfl⟩
            rw [List.length_map, List.take_of_length_le (Nat.le_refl _)]
            wtm_at "aw"
            refine ⟨_, hfp, ?_⟩
            wtm_at "aw"
            refine ⟨_, _, _, rfl, hk, ?_⟩
            wtm_at "aw"
            exact k
        · have : em = false := by rw [← hem, hts]; simp
          subst this
          refine r_brF ?_
          wtm_at "aw"
          rw [any_mem]
          refine r_br (fun hm => ?_) (fun hm => ?_)
          · have hmem : startOf order st goal = [] ∨ some (startOf order st goal) ∈ nds := .inr hm
            rw [if_neg (fun z => z.2 hm)] at k
            wtm_at "aw"
            rw [List.length_map, cut_from _ (by omega)]
            have ed : (iL goal).drop (((startOf order st goal).length : Nat) : Int).toNat = iL (goal.drop (startOf order st goal).length) := by
              rw [Int.toNat_natCast]; exact List.map_drop.symm
            rw [ed]
            have hpt := pointOf_le (nds := nds) (s := startOf order st goal)
            have hfp := first_point hmem
            obtain ⟨hb1, hb2⟩ := base_bound hk st
            generalize goal.drop (startOf order st goal).length = rest at k ⊢
            generalize startOf order st goal = s at k hqs hpt hfp ⊢
            refine loop_one (fun i ρ S' => ∃ v8 v9 v10, ρ = [some (.int size), some (.tup (iL order)), some (.int st), some (.own kk), some (.tup (iL goal)), some (.lst (iL ts)), some (.tup (iL s)), some (.int (numOf size (rest.take i))), v8, v9, v10] ∧ S' = S2) ⟨_, _, _, rfl, rfl⟩ ?_ ?_
            · rintro i x ρ S3 hi ⟨v8, v9, v10, rfl, rfl⟩
              obtain ⟨n, hn, rfl⟩ := map_at hi
              wtm_at "aw"
              exact ⟨_, _, _, by rw [take_oneG hn, numOf_snoc], rfl⟩
            · rintro ρ S3 ⟨v8, v9, v10, rfl, rfl⟩
              rw [List.length_map, List.take_of_length_le (Nat.le_refl _)]
              wtm_at "aw"
              refine ⟨_, hfp, ?_⟩
              wtm_at "aw"
              refine ⟨_, _, _, rfl, hk, ?_⟩
              wtm_at "aw"
              exact k
          · rw [if_pos ⟨by rw [hp]; exact Option.some_ne_none _, hm⟩] at k
            wtm_at "aw"
            exact k
end
end K11

namespace K11
open K10
@[reducible] def ovN : Option Nat → PV
  | none => .non
  | some k => .int (k : Nat)
def asp_previous_turn : AL := fun vs S P => ∃ size pr order st n, vs = [talkP size pr order, .int st, .int ((n : Nat) : Int)] ∧ P (ovN (prevT order st (min n order.length))) S
def asp_number_of : AL := fun vs S P => ∃ size xs, vs = [.tup (iL xs), .int size] ∧ 2 ≤ size ∧ size ≤ 9 ∧ P (.int (numOf size xs)) S
def asp_width : AL := fun vs S P => ∃ size pr order st r, vs = [talkP size pr order, .int st, .int r] ∧ TalkOk size order ∧ P (.int (widthN size order st r)) S
def asp_announced : AL := fun vs S P => ∃ size pr order st syms goal due, vs = [talkP size pr order, .int st, .tup (iL syms), .tup (iL goal)] ∧ TalkOk size order ∧ (∀ s ∈ syms, 0 ≤ s) ∧ syms.length ≤ 100 ∧ goal ≠ [] ∧ goal.length ≤ order.length ∧ annN size order st (nodesOf size order st syms) goal = some due ∧ P (.int due) S
def asp_noise : AL := fun vs S P => ∃ (D : Dk) (G G1 : Sto) (n size : Int) (order : List Int) (st : Int) (ms : List Int), vs = [.own 1, .int size, .tup (iL order), .int st, .own (G.length + 2)] ∧ S = dk D (G ++ .lst (iL ms) :: G1) ∧ D.Ok n ∧ n ≤ 800000000 ∧ TalkOk size order ∧ (∀ x ∈ ms, 0 ≤ x ∧ x < 1000000000000) ∧ ms.length ≤ 60 ∧
  ∀ (ex : List Int) D', D'.Ok (n + 12) → (∀ x ∈ ex, 0 ≤ x ∧ x < 1000000000000) → ex.length ≤ 2 → P .non (dk D' (G ++ .lst (iL (ms ++ ex)) :: G1))
theorem sget_mid (D : Dk) (G G1 : Sto) (xs : List PV) : sget (dk D (G ++ .lst xs :: G1)) (G.length + 2) = some xs := by
  show sget (G ++ .lst xs :: G1) G.length = some xs
  have := sget_app (sget_new G xs) G1
  rwa [List.append_assoc, List.singleton_append] at this
theorem sput_mid (D : Dk) (G G1 : Sto) (xs ys : List PV) : sput (dk D (G ++ .lst xs :: G1)) (G.length + 2) ys = dk D (G ++ .lst ys :: G1) := by
  show AO.lst _ :: AO.lst _ :: sput (G ++ .lst xs :: G1) G.length ys = _
  rw [sput_eq]
  simp
theorem dk_app (D : Dk) (G G1 : Sto) (o y : AO) : dk D (G ++ o :: G1) ++ [y] = dk D (G ++ o :: (G1 ++ [y])) := by
  show AO.lst _ :: AO.lst _ :: ((G ++ o :: G1) ++ [y]) = _
  simp
section
variable {P : Program} {w : World} {K : PySem.W.Frag} {mg : Str → Option Value} {base : Heap}
theorem ok_previous_turn (T : Txt mg) {f : Addr} {fd : FuncData} (F : Fun K "previous_turn" "previous_turn" st_previous_turn f fd) : FnG P w K mg base CX0 1 f fd pl_previous_turn (cSp K asp_previous_turn) := by
  refine oa_previous_turn T F (fun vs S R h => ?_) (fun vs S R h => ?_)
  · obtain ⟨size, pr, order, st, n, rfl, _⟩ := h
    rfl
  · obtain ⟨size, pr, order, st, n, rfl, k⟩ := h
    dsimp only [sv_previous_turn, pk]
    wtm_at "aw"
    have e : cutP (iL order) none (some ((n : Nat) : Int)) = iL (order.take n) := by rw [cut_take _ (by omega), Int.toNat_natCast]; exact List.map_take.symm
    rw [e]
    refine loop_enum (fun i ρ S' => ∃ v4 v5, ρ = [some (talkP size pr order), some (.int st), some (.int ((n : Nat) : Int)), some (ovN (prevT order st i)), v4, v5] ∧ S' = S) ⟨_, _, rfl, rfl⟩ ?_ ?_
    · rintro i x ρ _ hi ⟨v4, v5, rfl, rfl⟩
      obtain ⟨y, hy, rfl⟩ := map_at hi
      have hio : order[i]? = some y := by
        rw [List.getElem?_take] at hy
        split at hy
        · exact hy
        · cases hy
      wtm_at "aw"
      refine r_br (fun h => ?_) (fun h => ?_)
      · wtm_at "aw"
        exact ⟨_, _, by rw [prevT, if_pos (by rw [hio, h])], rfl⟩
      · wtm_at "aw"
        exact ⟨_, _, by rw [prevT, if_neg (by rw [hio]; simpa using h)], rfl⟩
    · rintro ρ _ ⟨v4, v5, rfl, rfl⟩
      rw [List.length_map, List.length_take]
      wtm_at "aw"
      exact k
theorem ok_number_of (T : Txt mg) {f : Addr} {fd : FuncData} (F : Fun K "number_of" "number_of" st_number_of f fd) : FnG P w K mg base CX0 1 f fd pl_number_of (cSp K asp_number_of) := by
  refine oa_number_of T F (fun vs S R h => ?_) (fun vs S R h => ?_)
  · obtain ⟨size, xs, rfl, _⟩ := h
    rfl
  · obtain ⟨size, xs, rfl, h2, h9, k⟩ := h
    dsimp only [sv_number_of, pk]
    wtm_at "aw"
    refine loop_one (fun i ρ S' => ∃ v, ρ = [some (.tup (iL xs)), some (.int size), some (.int (numOf size (xs.take i))), v] ∧ S' = S) ⟨_, rfl, rfl⟩ ?_ ?_
    · rintro i x ρ _ hi ⟨v, rfl, rfl⟩
      obtain ⟨n, hn, rfl⟩ := map_at hi
      wtm_at "aw"
      exact ⟨_, by rw [take_oneG hn, numOf_snoc], rfl⟩
    · rintro ρ _ ⟨v, rfl, rfl⟩
      rw [List.length_map, List.take_of_length_le (Nat.le_refl _)]
      wtm_at "aw"
      exact k
theorem ok_width (T : Txt mg) (c1 : Cg P w K mg base CX0 2 "base_of" (cSp K asp_base_of)) {f : Addr} {fd : FuncData} (F : Fun K "width" "width" st_width f fd) : FnG P w K mg base CX0 3 f fd pl_width (cSp K asp_width) := by
  refine oa_width T c1 F (fun vs S R h => ?_) (fun vs S R h => ?_)
  · obtain ⟨size, pr, order, st, r, rfl, _⟩ := h
    rfl
  · obtain ⟨size, pr, order, st, r, rfl, hk, k⟩ := h
    dsimp only [sv_width, pk]
    wtm_at "aw"
    refine ⟨order, rfl, ?_⟩
    unfold widthN at k
    wtm_at "aw"
    refine r_br (fun h => ?_) (fun h => ?_)
    · rw [if_pos h] at k
      wtm_at "aw"
      exact k
    · rw [if_neg h] at k
      wtm_at "aw"
      refine ⟨_, _, _, _, rfl, hk, ?_⟩
      obtain ⟨hb1, hb2⟩ := base_bound hk st
      generalize powN size (gapOf order st).toNat = b at k hb1 hb2 ⊢
      wtm_at "aw"
      refine ⟨fun v S' => ∃ _ : Unit, v = .int (if (order.count st : Int) = 1 then 1 else r) ∧ S' = S, ?_, ?_⟩
      · wtm_at "aw"
        refine r_br (fun h => ?_) (fun h => ?_)
        · wtm_at "aw"
          exact ⟨(), by rw [if_pos h], rfl⟩
        · wtm_at "aw"
          exact ⟨(), by rw [if_neg h], rfl⟩
      · rintro v _ ⟨_, rfl, rfl⟩
        wtm_at "aw"
        exact k
theorem idx_first {nds : List (Option (List Int))} {s : List Int} (h : some s ∈ nds) : FirstAt (nL nds) (.tup (iL s)) (nds.idxOf (some s)) := by
  have hlt := List.idxOf_lt_length_of_mem h
  refine ⟨⟨ndP (some s), ?_, ?_⟩, fun m z hm2 e2 => ?_⟩
  · rw [List.getElem?_map, List.getElem?_eq_getElem hlt, List.getElem_idxOf hlt]
    rfl
  · rw [eqv_nd]
    simp
  · obtain ⟨n, hn, rfl⟩ := map_at e2
    rw [eqv_nd]
    have hne : n ≠ some s := fun z => by
      subst z
      obtain ⟨h1, h2⟩ := List.getElem?_eq_some_iff.mp hn
      have := List.not_of_lt_findIdx (p := fun x => x == some s) (xs := nds) (i := m) hm2
      rw [h2] at this
      simp at this
    simp [hne]
theorem point_cons {nds : List (Option (List Int))} {s : List Int} (h : s ≠ []) : pointOf nds s = nds.idxOf (some s) + 1 := by
  unfold pointOf
  rw [List.idxOf_cons]
  have : (some ([] : List Int) == some s) = false := by
    rw [beq_eq_false_iff_ne]
    intro e
    exact h (Option.some.inj e).symm
  rw [this]
  rfl
theorem ok_announced (T : Txt mg) (c1 : Cg P w K mg base CX0 2 "base_of" (cSp K asp_base_of)) (c2 : Cg P w K mg base CX0 4 "denoted" (cSp K asp_denoted)) (c3 : Cg P w K mg base CX0 1 "number_of" (cSp K asp_number_of)) (c4 : Cg P w K mg base CX0 1 "previous_turn" (cSp K asp_previous_turn)) {f : Addr} {fd : FuncData} (F : Fun K "announced" "announced" st_announced f fd) : FnG P w K mg base CX0 5 f fd pl_announced (cSp K asp_announced) := by
  refine oa_announced T c1 c2 c3 c4 F (fun vs S R h => ?_) (fun vs S R h => ?_)
  · obtain ⟨size, pr, order, st, syms, goal, due, rfl, _⟩ := h
    rfl
  · obtain ⟨size, pr, order, st, syms, goal, due, rfl, hk, h0, hl, hne, hgl, hd, k⟩ := h
    have hpos : 0 < goal.length := List.length_pos_iff.mpr hne
    obtain ⟨hb1, hb2⟩ := base_bound hk st
    dsimp only [sv_announced, pk]
    wtm_at "aw"
    rw [List.length_map]
    refine ⟨_, _, _, _, goal.length - 1, by rw [show ((goal.length : Int) - 1) = ((goal.length - 1 : Nat) : Int) by omega], ?_⟩
    rw [Nat.min_eq_left (by omega)]
    have hX := nodesOf_len (size := size) (order := order) (st := st) (ss := syms)
    generalize hXe : nodesOf size order st syms = X at hd hX
    have hpt := pointOf_le (nds := X) (s := startOf order st goal)
    have hsl : (startOf order st goal).length ≤ goal.length := by
      unfold startOf
      split
      · exact Nat.zero_le _
      · rw [List.length_take]; omega
    have hdrop : ∀ s : List Int, s.length ≤ goal.length → cutP (iL goal) (some ((s.length : Nat) : Int)) none = iL (goal.drop s.length) := fun s _ => by
      rw [cut_from _ (by omega), Int.toNat_natCast]; exact List.map_drop.symm
    unfold annN at hd
    cases hpt2 : prevT order st (goal.length - 1) with
    | none =>
      have hs := startOf_none (goal := goal) hpt2
      rw [hs] at hd hpt hsl
      rw [if_neg (fun z => z.1 hpt2)] at hd
      cases hd
      have hp0 : pointOf X [] = 0 := by unfold pointOf; simp
      rw [hp0] at k
      wtm_at "aw"
      refine ⟨fun v S' => ∃ _ : Unit, v = .tup [] ∧ S' = S, ?_, ?_⟩
      · wtm_at "aw"
        exact ⟨(), rfl, rfl⟩
      · rintro v S1 ⟨_, rfl, rfl⟩
        wtm_at "aw"
        refine ⟨fun v S' => ∃ _ : Unit, v = .int 0 ∧ S' = S1, ?_, ?_⟩
        · wtm_at "aw"
          exact ⟨(), rfl, rfl⟩
        · rintro v _ ⟨_, rfl, rfl⟩
          wtm_at "aw"
          refine ⟨_, _, _, _, rfl, hk, ?_⟩
          wtm_at "aw"
          have e := hdrop [] (Nat.zero_le _)
          refine ⟨size, goal.drop ([] : List Int).length, by rw [← e]; rfl, hk.1, hk.2.1, ?_⟩
          wtm_at "aw"
          exact k
    | some p =>
      have hs := startOf_some (goal := goal) hpt2
      have hlt := prevT_lt hpt2
      have hsne : startOf order st goal ≠ [] := by
        rw [hs]
        intro z
        have := congrArg List.length z
        rw [List.length_take, List.length_nil] at this
        omega
      by_cases hmem : some (startOf order st goal) ∈ X
      · rw [if_neg (fun z => z.2 hmem)] at hd
        cases hd
        rw [point_cons hsne] at k hpt
        have hix := idx_first hmem
        have hq1 : eqOk (.tup (nL X)) := (Lay.tup Lay.nL).ok (k := 2) (by decide)
        have hq2 : eqOk (.tup (iL (startOf order st goal))) := eqOk_iT _
        have ecut : cutP (iL goal) none (some ((p : Int) + 1)) = iL (startOf order st goal) := by
          rw [cut_take _ (by omega), hs, show ((p : Int) + 1).toNat = p + 1 by omega]; exact List.map_take.symm
        have e := hdrop (startOf order st goal) hsl
        generalize startOf order st goal = s at *
        wtm_at "aw"
        refine ⟨fun v S' => ∃ _ : Unit, v = .tup (iL s) ∧ S' = S, ?_, ?_⟩
        · wtm_at "aw"
          exact ⟨(), by rw [ecut], rfl⟩
        · rintro v S1 ⟨_, rfl, rfl⟩
          wtm_at "aw"
          refine ⟨fun v S' => ∃ _ : Unit, v = .int (1 + (X.idxOf (some s) : Nat)) ∧ S' = S1, ?_, ?_⟩
          · wtm_at "aw"
            refine ⟨_, _, _, _, syms, rfl, hk, h0, hl, ?_⟩
            rw [hXe]
            wtm_at "aw"
            refine ⟨_, hix, ?_⟩
            wtm_at "aw"
            exact ⟨(), rfl, rfl⟩
          · rintro v _ ⟨_, rfl, rfl⟩
            wtm_at "aw"
            refine ⟨_, _, _, _, rfl, hk, ?_⟩
            generalize X.idxOf (some s) = ix at k hpt ⊢
            wtm_at "aw"
            rw [List.length_map]
            refine ⟨size, goal.drop s.length, by rw [e], hk.1, hk.2.1, ?_⟩
            wtm_at "aw"
            rw [show (((ix + 1 : Nat) : Int)) = 1 + (ix : Int) by omega] at k
            exact k
      · rw [if_pos ⟨by rw [hpt2]; exact Option.some_ne_none _, hmem⟩] at hd
        cases hd
end
end K11

namespace K11
open K10
section
variable {P : Program} {w : World} {K : PySem.W.Frag} {mg : Str → Option Value} {base : Heap}
theorem ok_noise (T : Txt mg) (c1 : Cg P w K mg base CX0 2 "_law_base" (cSp K asp_lbase)) (c2 : Cg P w K mg base CX0 1 "_law_draw" (cSp K asp_draw)) (c3 : Cg P w K mg base CX0 2 "_law_pick" (cSp K asp_pick)) {f : Addr} {fd : FuncData} (F : Fun K "_law_noise" "_law_noise" st__law_noise f fd) : FnG P w K mg base CX0 3 f fd pl__law_noise (cSp K asp_noise) := by
  refine oa__law_noise T c1 c2 c3 F (fun vs S R h => ?_) (fun vs S R h => ?_)
  · obtain ⟨D, G, G1, n, size, order, st, ms, rfl, _⟩ := h
    rfl
  · obtain ⟨D, G, G1, n, size, order, st, ms, rfl, rfl, hD, hn, hk, hms, hml, k⟩ := h
    dsimp only [sv__law_noise, pk]
    wtm_at "aw"
    refine ⟨_, _, _, rfl, hk, ?_⟩
    obtain ⟨hb1, hb2⟩ := base_bound hk st
    generalize powN size (gapOf order st).toNat = b at hb1 hb2 ⊢
    wtm_at "aw"
    refine ⟨D, _, _, _, rfl, rfl, hD, by omega, by omega, by omega, fun r D1 r0 r1 hD1 => ?_⟩
    wtm_at "aw"
    refine loop_rng0 (fun i ρ S' => ∃ v6 v7 v8 v9 ex D', ρ = [some (.own 1), some (.int size), some (.tup (iL order)), some (.int st), some (.own (G.length + 2)), some (.int b), v6, v7, v8, v9] ∧ S' = dk D' (G ++ .lst (iL (ms ++ ex)) :: G1) ∧ D'.Ok (n + 1 + 4 * i) ∧ (∀ x ∈ ex, 0 ≤ x ∧ x < 1000000000000) ∧ ex.length = i) ⟨_, _, _, _, [], D1, rfl, by rw [List.append_nil], hD1.up (by omega), (fun x hx => by cases hx), rfl⟩ ?_ ?_
    · rintro i ρ _ hi ⟨v6, v7, v8, v9, ex, D', rfl, rfl, hD', hex, hel⟩
      have hadd : ∀ z : Int, 0 ≤ z → z < 1000000000000 → ∀ x ∈ ex ++ [z], 0 ≤ x ∧ x < 1000000000000 := fun z z0 z1 x hx => by
        rcases List.mem_append.mp hx with hx | hx
        · exact hex x hx
        · rw [List.mem_singleton.mp hx]; exact ⟨z0, z1⟩
      have hall : ∀ x ∈ (0 : Int) :: (ms ++ ex), 0 ≤ x ∧ x < 1000000000000 := fun x hx => by
        rcases List.mem_cons.mp hx with rfl | hx
        · omega
        · rcases List.mem_append.mp hx with hx | hx
          · exact hms x hx
          · exact hex x hx
      have hlen : (ms ++ ex).length ≤ 62 := by rw [List.length_append]; omega
      generalize hme : ms ++ ex = me at hall hlen ⊢
      have hsn : ∀ z : Int, iL (ms ++ (ex ++ [z])) = iL me ++ [.int z] := fun z => by rw [← List.append_assoc, hme, iL_snoc]
      wtm_at "aw"
      refine ⟨D', _, _, _, rfl, rfl, hD', by omega, by omega, by omega, fun way D2 w0 w1 hD2 => ?_⟩
      have hmid2 := sget_mid D2 G G1 (iL me)
      wtm_at "aw"
      refine r_br (fun h => ?_) (fun h => ?_)
      · wtm_at "aw"
        refine ⟨D2, _, _, _, iL ((0 : Int) :: me), rfl, rfl, hD2, by omega, by simp, by rw [List.length_map, List.length_cons]; omega, fun D3 => rfl, fun v D3 hv hD3 => ?_⟩
        obtain ⟨x, hx, rfl⟩ := List.mem_map.mp hv
        have hmid3 := sget_mid D3 G G1 (iL me)
        wtm_at "aw"
        rw [sput_mid]
        exact ⟨_, _, _, _, ex ++ [x], D3, rfl, by rw [hsn], hD3.up (by omega), hadd x (hall x hx).1 (hall x hx).2, by simp [hel]⟩
      · wtm_at "aw"
        rw [List.length_append, List.length_map, List.length_singleton]
        refine ⟨D2, _, _, _, rfl, rfl, hD2, by omega, by omega, by omega, fun p D3 p0 p1 hD3 => ?_⟩
        wtm_at "aw"
        refine ⟨order, rfl, ?_⟩
        wtm_at "aw"
        generalize hq : (if decide ((1 : Int) < ((order.count st : Nat) : Int)) = true then (1 : Int) else 0) = q
        have q01 : 0 ≤ q ∧ q ≤ 1 := by rw [← hq]; split <;> omega
        have hpq : 0 ≤ p * q ∧ p * q ≤ 70 := ⟨Int.mul_nonneg p0 q01.1, by have := Int.mul_le_mul (show p ≤ 70 by omega) q01.2 q01.1 (by omega); omega⟩
        generalize p * q = pq at hpq ⊢
        have hmid3 := sget_mid D3 G G1 (iL me)
        wtm_at "aw"
        refine ⟨D3, _, _, _, rfl, rfl, hD3, by omega, by omega, by omega, fun s D4 s0 s1 hD4 => ?_⟩
        have hmid4 := sget_mid D4 G G1 (iL me)
        have d1 : 0 ≤ pq * b := Int.mul_nonneg hpq.1 (by omega)
        have d2 : pq * b ≤ 70 * 43046721 := Int.mul_le_mul hpq.2 hb2 (by omega) (by omega)
        wtm_at "aw"
        rw [sput_mid]
        exact ⟨_, _, _, _, ex ++ [1 + pq * b + s], D4, rfl, by rw [hsn], hD4.up (by omega), hadd _ (by omega) (by omega), by simp [hel]⟩
    · rintro ρ _ ⟨v6, v7, v8, v9, ex, D', rfl, rfl, hD', hex, hel⟩
      wtm_at "aw"
      exact k ex D' (hD'.up (by omega)) hex (by omega)
end
end K11

namespace K11
open K10
theorem turns_split {order : List Int} {st : Int} : ∀ {n i : Nat} {t : Int}, (turnsT order st n)[i]? = some t → ∃ tn : Nat, t = tn ∧ tn < n ∧ order[tn]? = some st ∧ (turnsT order st n).take i = turnsT order st tn
  | 0, i, t, h => by cases h
  | n + 1, i, t, h => by
    have e : turnsT order st (n + 1) = if order[n]? = some st then turnsT order st n ++ [(n : Int)] else turnsT order st n := rfl
    rw [e] at h ⊢
    by_cases hn : order[n]? = some st
    · rw [if_pos hn] at h
      simp only [if_pos hn]
      by_cases hi : i < (turnsT order st n).length
      · rw [List.getElem?_append_left hi] at h
        obtain ⟨tn, h1, h2, h3, h4⟩ := turns_split h
        exact ⟨tn, h1, by omega, h3, by rw [List.take_append_of_le_length (by omega), h4]⟩
      · rw [List.getElem?_append_right (by omega)] at h
        have hi0 : i - (turnsT order st n).length = 0 := by
          have := (List.getElem?_eq_some_iff.mp h).1
          rw [List.length_singleton] at this
          omega
        rw [hi0] at h
        cases h
        exact ⟨n, rfl, by omega, hn, List.take_left' (Nat.le_antisymm (Nat.le_of_not_lt hi) (Nat.le_of_sub_eq_zero hi0))⟩
    · rw [if_neg hn] at h
      simp only [if_neg hn]
      obtain ⟨tn, h1, h2, h3, h4⟩ := turns_split h
      exact ⟨tn, h1, by omega, h3, h4⟩
theorem prevT_mem {order : List Int} {st : Int} {n p : Nat} (h : prevT order st n = some p) : (p : Int) ∈ turnsT order st n := by
  rcases turns_last order st n with ⟨_, h2⟩ | ⟨init, k, h1, h2⟩
  · rw [h2] at h; cases h
  · rw [h2] at h
    cases h
    rw [h1]
    simp
theorem nodes_keep {size : Int} {order : List Int} {st : Int} {ss ts : List Int} {l : List Int} (h : some l ∈ nodesOf size order st ss) : some l ∈ nodesOf size order st (ss ++ ts) := by
  unfold nodesOf at h ⊢
  rw [nodesGo_app]
  obtain ⟨r, e⟩ := nodesGo_pre size order st ts (nodesGo size order st ss [])
  rw [e]
  exact List.mem_append_left _ h
theorem count_two {order : List Int} {st : Int} {p t : Nat} (hp : order[p]? = some st) (ht : order[t]? = some st) (h : p < t) : 2 ≤ order.count st := by
  have e := List.take_append_drop t order
  have c := congrArg (List.count st) e
  rw [List.count_append] at c
  have h1 : 0 < (order.take t).count st := List.count_pos_iff.mpr (List.mem_of_getElem? (i := p) (by rw [List.getElem?_take, if_pos h]; exact hp))
  have h2 : 0 < (order.drop t).count st := List.count_pos_iff.mpr (List.mem_of_getElem? (i := 0) (by rw [List.getElem?_drop]; exact ht))
  omega
def asp_path : AL := fun vs S P => ∃ (D : Dk) (G : Sto) (n size : Int) (pr pr2 : PV) (order : List Int) (st : Int), vs = [.own 1, talkP size pr order, talkP size pr2 order, .int st] ∧ S = dk D G ∧ D.Ok n ∧ n ≤ 700000000 ∧ TalkOk size order ∧ (∀ x ∈ order, 0 ≤ x ∧ x < 100) ∧ Rp 5 30000 pr ∧
  ∀ D' G', D'.Ok (n + 500) → P (.bl true) (dk D' G')
section
variable {P : Program} {w : World} {K : PySem.W.Frag} {mg : Str → Option Value} {base : Heap}
theorem ok_path (T : Txt mg) (c1 : Cg P w K mg base CX0 3 "_law_announced" (cSp K asp_lann)) (c2 : Cg P w K mg base CX0 1 "_law_draw" (cSp K asp_draw)) (c3 : Cg P w K mg base CX0 4 "_law_nodes" (cSp K asp_lnodes)) (c4 : Cg P w K mg base CX0 3 "_law_noise" (cSp K asp_noise)) (c5 : Cg P w K mg base CX0 5 "announced" (cSp K asp_announced)) (c6 : Cg P w K mg base CX0 4 "denoted" (cSp K asp_denoted)) (c7 : Cg P w K mg base CX0 3 "width" (cSp K asp_width))
    (c8 : Cgk P w K mg base CX0 5 "announced" ["node", "symbols", "station", "talk"] (cSp K (askOf [3, 2, 1, 0] 4 asp_announced))) {f : Addr} {fd : FuncData} (F : Fun K "_law_path_right" "_law_path_right" st__law_path_right f fd) : FnG P w K mg base CX0 6 f fd pl__law_path_right (cSp K asp_path) := by
  refine oa__law_path_right T c1 c2 c3 c4 c5 c6 c7 c8 F (fun vs S R h => ?_) (fun vs S R h => ?_)
  · obtain ⟨D, G, n, size, pr, pr2, order, st, rfl, _⟩ := h
    rfl
  · obtain ⟨D, G, n, size, pr, pr2, order, st, rfl, rfl, hD, hn, hk, hor, hpr2, k⟩ := h
    obtain ⟨k0, k1, k2⟩ := id hk
    dsimp only [sv__law_path_right, pk]
    wtm_at "aw"
    refine comp_one (fun j S' acc => ∃ (ps : List Int) (D' : Dk), acc = iL ps ∧ S' = dk D' G ∧ D'.Ok (n + j) ∧ ps.length = j ∧ ∀ x ∈ ps, 0 ≤ x ∧ x < size) ⟨[], D, rfl, rfl, hD.up (by omega), rfl, (fun x hx => by cases hx)⟩ ?_ ?_
    · rintro j x _ acc hj ⟨ps, D', rfl, rfl, hD', hpl, hps⟩
      have hjl := (List.getElem?_eq_some_iff.mp hj).1
      rw [List.length_map] at hjl
      wtm_at "aw"
      refine ⟨D', _, _, _, rfl, rfl, hD', by omega, by omega, by omega, fun r D4 r0 r1 hD4 => ?_⟩
      wtm_at "aw"
      refine ⟨ps ++ [r], D4, by rw [iL_snoc], rfl, hD4.up (by omega), by simp [hpl], fun x hx => ?_⟩
      rcases List.mem_append.mp hx with hx | hx
      · exact hps x hx
      · rw [List.mem_singleton.mp hx]; exact ⟨r0, r1⟩
    · rintro _ acc ⟨path, D4, rfl, rfl, hD4, hpl, hpm⟩
      rw [List.length_map] at hD4 hpl
      wtm_at "aw"
      rw [List.length_map]
      refine comp_rng0 (fun i S' acc => ∃ _ : Unit, acc = iL (turnsT order st i) ∧ S' = dk D4 (G ++ [.lst []])) ⟨(), rfl, rfl⟩ ?_ ?_
      · rintro i S1 acc hi ⟨_, rfl, rfl⟩
        have hlt : i < order.length := by omega
        have he := List.getElem?_eq_getElem hlt
        have hv : atI (iL order) (i : Int) = some (.int order[i]) := at_nat (by rw [List.getElem?_map, he]; rfl)
        have htl := turns_len order st i
        wtm_at "aw"
        refine r_onO hv ?_
        wtm_at "aw"
        refine r_br (fun h => ?_) (fun h => ?_)
        · wtm_at "aw"
          refine ⟨(), ?_, rfl⟩
          rw [turnsT, if_pos (by rw [he, h]), iL_snoc]
        · refine ⟨(), ?_, rfl⟩
          rw [turnsT, if_neg (by rw [he]; simpa using h)]
      · rintro S1 acc ⟨_, rfl, rfl⟩
        rw [Int.toNat_natCast]
        have htl := turns_len order st order.length
        have hsplit := fun i t => turns_split (order := order) (st := st) (n := order.length) (i := i) (t := t)
        generalize turnsT order st order.length = ts at htl hsplit ⊢
        wtm_at "aw"
        refine loop_one (fun i ρ S' => ∃ v6 v9 v10 v11 v12 v13 v14 v15 ms D' G1, ρ = [some (.own 1), some (talkP size pr order), some (talkP size pr2 order), some (.int st), some (.int size), some (.tup (iL order)), v6, some (.tup (iL path)), some (.own (G.length + 2)), v9, v10, v11, v12, v13, v14, v15] ∧ S' = dk D' (G ++ .lst (iL ms) :: G1) ∧ D'.Ok (n + 8 + 12 * i) ∧ ms.length ≤ 3 * i ∧ (∀ x ∈ ms, 0 ≤ x ∧ x < 1000000000000) ∧ ∀ q : Nat, (q : Int) ∈ ts.take i → some (path.take (q + 1)) ∈ nodesOf size order st ms) ⟨_, _, _, _, _, _, _, _, [], D4, [], rfl, rfl, hD4.up (by omega), Nat.zero_le _, (fun x hx => by cases hx), (fun q hq => by rw [List.take_zero] at hq; cases hq)⟩ ?_ ?_
        · rintro i x ρ S2 hi ⟨v6, v9, v10, v11, v12, v13, v14, v15, ms0, D', G1, rfl, rfl, hD', hml0, hms0, hnd0⟩
          obtain ⟨t, ht, rfl⟩ := map_at hi
          obtain ⟨tn, rfl, htn, hot, htk⟩ := hsplit i t ht
          have hit := (List.getElem?_eq_some_iff.mp ht).1
          wtm_at "aw"
          refine ⟨D', G, G1, _, _, _, _, ms0, rfl, rfl, hD', by omega, hk, hms0, by omega, fun ex D5 hD5 hex hel => ?_⟩
          have hms : ∀ x ∈ ms0 ++ ex, 0 ≤ x ∧ x < 1000000000000 := fun x hx => by
            rcases List.mem_append.mp hx with hx | hx
            · exact hms0 x hx
            · exact hex x hx
          have hml : (ms0 ++ ex).length ≤ 3 * i + 2 := by rw [List.length_append]; omega
          have hnd : ∀ q : Nat, (q : Int) ∈ ts.take i → some (path.take (q + 1)) ∈ nodesOf size order st (ms0 ++ ex) := fun q hq => nodes_keep (hnd0 q hq)
          generalize ms0 ++ ex = ms at hms hml hnd ⊢
          clear hnd0 hms0 hml0
          have hmid5 := sget_mid D5 G G1 (iL ms)
          wtm_at "aw"
          have egoal : cutP (iL path) none (some ((tn : Int) + 1)) = iL (path.take (tn + 1)) := by rw [cut_take _ (by omega), show ((tn : Int) + 1).toNat = tn + 1 by omega]; exact List.map_take.symm
          rw [egoal]
          have hgl : (path.take (tn + 1)).length = tn + 1 := by rw [List.length_take]; omega
          have hgm : ∀ x ∈ path.take (tn + 1), 0 ≤ x ∧ x < size := fun x hx => hpm x (List.mem_of_mem_take hx)
          have hstart : ∀ p, prevT order st tn = some p → startOf order st (path.take (tn + 1)) = path.take (p + 1) := fun p hp => by
            rw [startOf_some (by rw [hgl]; exact hp), List.take_take]
            have := prevT_lt hp
            congr 1
            omega
          have hprev : prevT order st tn = none ∨ some (startOf order st (path.take (tn + 1))) ∈ nodesOf size order st ms := by
            cases hp : prevT order st tn with
            | none => exact .inl rfl
            | some p =>
              refine .inr ?_
              rw [hstart p hp]
              exact hnd p (by rw [htk]; exact prevT_mem hp)
          obtain ⟨due, hdue, hnode, hd0, hd1, hd2, hd3⟩ := ann_node k0 hot hgl hgm hprev
          have hgne : path.take (tn + 1) ≠ [] := fun z => by have := congrArg List.length z; rw [hgl, List.length_nil] at this; omega
          obtain ⟨hb1, hb2⟩ := base_bound hk st
          have hXl := nodesOf_len (size := size) (order := order) (st := st) (ss := ms)
          -- the width
          have hwid : due < widthN size order st ((ms.length : Int) + 1) := by
            have hc : 0 < order.count st := List.count_pos_iff.mpr (List.mem_of_getElem? hot)
            unfold widthN
            rw [if_neg (by omega)]
            by_cases h1 : (order.count st : Int) = 1
            · rw [if_pos h1, Int.mul_one]
              have hpn : prevT order st tn = none := by
                cases hp : prevT order st tn with
                | none => rfl
                | some p =>
                  have := count_two (prevT_turn hp) hot (prevT_lt hp)
                  omega
              have := hd3 hpn
              rw [this] at hd1
              simpa using hd1
            · rw [if_neg h1]
              have hle : ((pointOf (nodesOf size order st ms) (startOf order st (path.take (tn + 1))) : Int) + 1) ≤ (ms.length : Int) + 1 := by omega
              have := Int.mul_le_mul_of_nonneg_left hle (show 0 ≤ powN size (gapOf order st).toNat by omega)
              have e := Int.mul_comm (((pointOf (nodesOf size order st ms) (startOf order st (path.take (tn + 1))) : Int) + 1)) (powN size (gapOf order st).toNat)
              omega
          have hdb : due < 1000000000000 := by
            have hle : ((pointOf (nodesOf size order st ms) (startOf order st (path.take (tn + 1))) : Int) + 1) * powN size (gapOf order st).toNat ≤ 101 * 43046721 := Int.mul_le_mul (by omega) hb2 (by omega) (by omega)
            omega
          have hsnoc : nodesOf size order st (ms ++ [due]) = nodesOf size order st ms ++ [some (path.take (tn + 1))] := by rw [nodesOf_snoc, hnode]
          have hndx : ∀ q : Nat, (q : Int) ∈ ts.take (i + 1) → some (path.take (q + 1)) ∈ nodesOf size order st (ms ++ [due]) := fun q hq => by
            rw [take_oneG ht] at hq
            rcases List.mem_append.mp hq with hq | hq
            · exact nodes_keep (hnd q hq)
            · have : q = tn := by have := List.mem_singleton.mp hq; omega
              subst this
              rw [hsnoc]
              exact List.mem_append_right _ List.mem_cons_self
          refine ⟨_, _, _, ms, _, rfl, .inr ⟨_, rfl, hmid5⟩, hk, fun s hs => (hms s hs).1, by omega, ?_⟩
          generalize hXe : nodesOf size order st ms = X at hdue hXl hsnoc ⊢
          wtm_at "aw"
          refine ⟨_, _, _, _, X, path.take (tn + 1), rfl, sget_new _ _, by omega, hk, hgne, by omega, ?_⟩
          rw [hdue, dk_app]
          generalize G1 ++ [AO.lst (nL X)] = G2
          have hmid6 := sget_mid D5 G G2 (iL ms)
          have ho : Rp 5 30000 (.tup (iL order)) := (Rp.tup (k := 4) (z := 1921) (n := 8) (Rp.ofI (fun y hy => by have := hor y hy; omega) (Nat.le_refl _)) (by rw [List.length_map]; omega)).up (by decide)
          have hmr : Rp 6 90009 (.lst (iL ms)) := (Rp.lst (k := 5) (z := 1921) (n := 30) (Rp.ofI (fun y hy => by have := hms y hy; omega) (Nat.le_refl _)) (by rw [List.length_map]; omega)).up (by decide)
          have hrp : rpOk (.tup [talkP size pr order, .lst (iL ms)]) :=
            (Rp.tup (n := 2) (Rp.cons (Rp.tup (n := 3) (Rp.cons (Rp.int (by omega) (by omega) (by decide)) (Rp.cons hpr2 (Rp.cons ho Rp.nil))) (by simp)) (Rp.cons hmr Rp.nil)) (by simp)).ok (by decide) (by decide)
          have hrd : rpOk (.lst [.int due, .int due]) := (Rp.lst (k := 0) (z := 1921) (n := 2) (Rp.cons (Rp.int (by omega) (by omega) (by decide)) (Rp.cons (Rp.int (by omega) (by omega) (by decide)) Rp.nil)) (by simp)).ok (by decide) (by decide)
          have hq1 : eqOk (.tup (iL (path.take (tn + 1)))) := eqOk_iT _
          have hq2 : eqOk (ndP (some (path.take (tn + 1)))) := eqOk_iT _
          wtm_at "aw"
          refine ⟨.tup [talkP size pr order, .lst (iL ms)], .tup (.cons (.refl _) (.cons (.own hmid6 (.refl _)) (.refl _))), hrp, ?_⟩
          wtm_at "aw"
          refine ⟨_, _, _, _, ms, path.take (tn + 1), due, rfl, hk, fun s hs => (hms s hs).1, by omega, hgne, by omega, by rw [hXe]; exact hdue, ?_⟩
          wtm_at "aw"
          refine ⟨rfl, _, _, _, _, ms, path.take (tn + 1), due, rfl, hk, fun s hs => (hms s hs).1, by omega, hgne, by omega, by rw [hXe]; exact hdue, ?_⟩
          wtm_at "aw"
          refine r_by rfl ?_
          wtm_at "aw"
          refine r_by rfl ?_
          wtm_at "aw"
          rw [show iL ms ++ [ov (some due)] = iL (ms ++ [due]) from iL_snoc ms due]
          refine ⟨_, _, _, _, ms ++ [due], rfl, hk, fun s hs => ?_, by rw [List.length_append, List.length_singleton]; omega, ?_⟩
          · rcases List.mem_append.mp hs with hs | hs
            · exact (hms s hs).1
            · rw [List.mem_singleton.mp hs]; omega
          rw [hsnoc]
          wtm_at "aw"
          refine r_onO (x := ndP (some (path.take (tn + 1)))) (by rw [nL, List.map_append]; exact at_last _ _) ?_
          wtm_at "aw"
          rw [eqv_iT]
          refine r_by rfl ?_
          wtm_at "aw"
          rw [List.length_map]
          refine ⟨_, _, _, _, _, rfl, hk, ?_⟩
          wtm_at "aw"
          refine r_bn (by show ¬ (widthN size order st ((ms.length : Int) + 1) ≤ due); omega) ?_
          wtm_at "aw"
          rw [sput_mid]
          refine ⟨_, _, _, _, _, _, _, _, ms ++ [due], D5, G2, rfl, by rw [← iL_snoc], hD5.up (by omega), by rw [List.length_append, List.length_singleton]; omega, fun x hx => ?_, hndx⟩
          rcases List.mem_append.mp hx with hx | hx
          · exact hms x hx
          · rw [List.mem_singleton.mp hx]; omega
        · rintro ρ S2 ⟨v6, v9, v10, v11, v12, v13, v14, v15, ms0, D', G1, rfl, rfl, hD', hml0, hms0, hnd0⟩
          rw [List.length_map] at hD'
          wtm_at "aw"
          exact k D' _ (hD'.up (by omega))
end
end K11

namespace K11
open K10
def asp_law : AL := fun vs S P => ∃ ns : List Int, vs = [.scr ns] ∧ S = [] ∧ ns.length ≤ 63 ∧ ∀ S', P (.bl true) S'
section
variable {P : Program} {w : World} {K : PySem.W.Frag} {mg : Str → Option Value} {base : Heap}
theorem ok_law (T : Txt mg) (c1 : Cg P w K mg base CX0 1 "_law_deck" (cSp K asp_deck)) (c2 : Cg P w K mg base CX0 1 "_law_draw" (cSp K asp_draw)) (c3 : Cg P w K mg base CX0 2 "_law_order" (cSp K asp_order)) (c4 : Cg P w K mg base CX0 6 "_law_path_right" (cSp K asp_path)) {f : Addr} {fd : FuncData} (F : Fun K "law" "law" st_law f fd) : FnG P w K mg base CX0 7 f fd ["_law_script"] (cSp K asp_law) := by
  refine oa_law T c1 c2 c3 c4 F (fun vs S R h => ?_) (fun vs S R h => ?_)
  · obtain ⟨ns, rfl, _⟩ := h
    rfl
  · obtain ⟨ns, rfl, rfl, hl, k⟩ := h
    dsimp only [sv_law, pk]
    wtm_at "aw"
    refine ⟨ns, rfl, rfl, hl, fun D hD => ?_⟩
    wtm_at "aw"
    refine loop_rng0 (fun i ρ S' => ∃ D G v2 v3 v4 v5 v6 v7 v8, ρ = [some (.scr ns), some (.own 1), v2, v3, v4, v5, v6, v7, v8] ∧ S' = dk D G ∧ D.Ok (3000 * i)) ⟨D, [], _, _, _, _, _, _, _, rfl, rfl, hD.up (by omega)⟩ ?_ ?_
    · rintro i ρ _ hi ⟨D, G, v2, v3, v4, v5, v6, v7, v8, rfl, rfl, hD⟩
      wtm_at "aw"
      refine ⟨D, G, _, _, rfl, rfl, hD, by omega, by omega, by omega, fun r1 D1 a0 a1 hD1 => ?_⟩
      wtm_at "aw"
      refine ⟨D1, G, _, _, rfl, rfl, hD1, by omega, by omega, by omega, fun r2 D2 b0 b1 hD2 => ?_⟩
      wtm_at "aw"
      refine ⟨D2, G, _, _, _, rfl, rfl, hD2, by omega, by omega, by omega, by omega, by omega, fun order D3 hD3 hor hol => ?_⟩
      wtm_at "aw"
      have hk : TalkOk (2 + r1) order := ⟨by omega, by omega, by omega⟩
      generalize hpr : PV.tup (List.replicate (2 + r2).toNat [PV.tup [PV.tup [], PV.tup [], PV.int 2]]).flatten = pr
      have hpr2 : Rp 5 30000 pr := by
        rw [← hpr]
        have hx : Rp 4 6000 (PV.tup [PV.tup [], PV.tup [], PV.int 2]) := (Rp.tup (k := 3) (z := 1921) (n := 3) (Rp.cons ((Rp.tup (k := 2) (z := 0) (n := 0) Rp.nil (by decide)).up (by decide)) (Rp.cons ((Rp.tup (k := 2) (z := 0) (n := 0) Rp.nil (by decide)).up (by decide)) (Rp.cons (Rp.int (by decide) (by decide) (by decide)) Rp.nil))) (by decide)).up (by decide)
        rw [flat_ref]
        exact (Rp.tup (k := 4) (z := 6000) (n := 4) (fun y hy => by rw [(List.mem_replicate.mp hy).2]; exact hx) (by rw [List.length_replicate]; omega)).up (by decide)
      clear hpr
      generalize PV.tup (List.replicate (2 + r2).toNat _).flatten = pr2
      refine loop_rng0 (fun j ρ S' => ∃ D G v8, ρ = [some (.scr ns), some (.own 1), some (.int (i : Nat)), some (.int (2 + r1)), some (.int (2 + r2)), some (.tup (iL order)), some (talkP (2 + r1) pr order), some (talkP (2 + r1) pr2 order), v8] ∧ S' = dk D G ∧ D.Ok (3000 * i + 202 + 500 * j)) ⟨D3, G, _, rfl, rfl, hD3.up (by omega)⟩ ?_ ?_
      · clear hD hD1 hD2 hD3
        rintro j ρ _ hj ⟨D, G, v8, rfl, rfl, hD⟩
        wtm_at "aw"
        refine ⟨D, G, _, _, pr, pr2, order, _, rfl, rfl, hD, by omega, hk, fun x hx => by have := hor x hx; omega, hpr2, fun D5 G5 hD5 => ?_⟩
        wtm_at "aw"
        exact ⟨D5, G5, _, rfl, rfl, hD5.up (by omega)⟩
      · rintro ρ _ ⟨D, G, v8, rfl, rfl, hD⟩
        wtm_at "aw"
        exact ⟨D, G, _, _, _, _, _, _, _, rfl, rfl, hD.up (by omega)⟩
    · rintro ρ _ ⟨D, G, v2, v3, v4, v5, v6, v7, v8, rfl, rfl, hD⟩
      wtm_at "aw"
      exact k _
end
end K11

namespace K11
theorem all_mk {l : PySem.W.OpenLaw} {w : World} {K : PySem.W.Frag} {h : Heap} {mg : Str → Option Value} {fa f1 f2 f3 f4 f5 f6 f7 f8 f9 f10 f11 f12 f13 f14 f15 f16 f17 f18 f19 f20 f21 f22 f23 : Addr} (X : K.In h) (G : h.Ns mainGlobals mg) (hfa : mg "law" = some (.ref fa))
    {od1 an1 od2 an2 od3 an3 od4 an4 od5 an5 od6 an6 od7 an7 od8 an8 od9 an9 od10 an10 od11 an11 od12 an12 od13 an13 od14 an14 od15 an15 od16 an16 od17 an17 od18 an18 od19 an19 od20 an20 od21 an21 od22 an22 od23 an23 : Option Addr} {sl1 sl2 sl3 sl4 sl5 sl6 sl7 sl8 sl9 sl10 sl11 sl12 sl13 sl14 sl15 sl16 sl17 sl18 sl19 sl20 sl21 sl22 sl23 : Array (Option Value)} {oc1 kV1 dc1 pm1 cd1 ct1 oc2 kV2 dc2 pm2 cd2 ct2 oc3 kV3 dc3 pm3 cd3 ct3 oc4 kV4 dc4 pm4 cd4 ct4 oc5 kV5 dc5 pm5 cd5 ct5 oc6 kV6 dc6 pm6 cd6 ct6 oc7 kV7 dc7 pm7 cd7 ct7 oc8 kV8 dc8 pm8 cd8 ct8 oc9 kV9 dc9 pm9 cd9 ct9 oc10 kV10 dc10 pm10 cd10 ct10 oc11 kV11 dc11 pm11 cd11 ct11 oc12 kV12 dc12 pm12 cd12 ct12 oc13 kV13 dc13 pm13 cd13 ct13 oc14 kV14 dc14 pm14 cd14 ct14 oc15 kV15 dc15 pm15 cd15 ct15 oc16 kV16 dc16 pm16 cd16 ct16 oc17 kV17 dc17 pm17 cd17 ct17 oc18 kV18 dc18 pm18 cd18 ct18 oc19 kV19 dc19 pm19 cd19 ct19 oc20 kV20 dc20 pm20 cd20 ct20 oc21 kV21 dc21 pm21 cd21 ct21 oc22 kV22 dc22 pm22 cd22 ct22 oc23 kV23 dc23 pm23 cd23 ct23 : Value}
    (a1 : PySem.W.nsIn K mainGlobals "_law_deck" = some (some (.ref f1))) (l1 : K.lookup f1 = some ⟨oc1, od1, .func (PySem.W.fnOf "_law_deck" "_law_deck" (defArgs st__law_deck) (defBody st__law_deck) (defScope st__law_deck) .none kV1 dc1 pm1 an1 cd1 ct1), sl1⟩) (c1 : PySem.W.codeIn K cd1 "_law_deck" = true) (k1 : PySem.W.keepIn K (.ref f1) = true)
    (a2 : PySem.W.nsIn K mainGlobals "_law_draw" = some (some (.ref f2))) (l2 : K.lookup f2 = some ⟨oc2, od2, .func (PySem.W.fnOf "_law_draw" "_law_draw" (defArgs st__law_draw) (defBody st__law_draw) (defScope st__law_draw) .none kV2 dc2 pm2 an2 cd2 ct2), sl2⟩) (c2 : PySem.W.codeIn K cd2 "_law_draw" = true) (k2 : PySem.W.keepIn K (.ref f2) = true)
    (a3 : PySem.W.nsIn K mainGlobals "_law_order" = some (some (.ref f3))) (l3 : K.lookup f3 = some ⟨oc3, od3, .func (PySem.W.fnOf "_law_order" "_law_order" (defArgs st__law_order) (defBody st__law_order) (defScope st__law_order) .none kV3 dc3 pm3 an3 cd3 ct3), sl3⟩) (c3 : PySem.W.codeIn K cd3 "_law_order" = true) (k3 : PySem.W.keepIn K (.ref f3) = true)
    (a4 : PySem.W.nsIn K mainGlobals "_law_power" = some (some (.ref f4))) (l4 : K.lookup f4 = some ⟨oc4, od4, .func (PySem.W.fnOf "_law_power" "_law_power" (defArgs st__law_power) (defBody st__law_power) (defScope st__law_power) .none kV4 dc4 pm4 an4 cd4 ct4), sl4⟩) (c4 : PySem.W.codeIn K cd4 "_law_power" = true) (k4 : PySem.W.keepIn K (.ref f4) = true)
    (a5 : PySem.W.nsIn K mainGlobals "_law_base" = some (some (.ref f5))) (l5 : K.lookup f5 = some ⟨oc5, od5, .func (PySem.W.fnOf "_law_base" "_law_base" (defArgs st__law_base) (defBody st__law_base) (defScope st__law_base) .none kV5 dc5 pm5 an5 cd5 ct5), sl5⟩) (c5 : PySem.W.codeIn K cd5 "_law_base" = true) (k5 : PySem.W.keepIn K (.ref f5) = true)
    (a6 : PySem.W.nsIn K mainGlobals "_law_announced" = some (some (.ref f6))) (l6 : K.lookup f6 = some ⟨oc6, od6, .func (PySem.W.fnOf "_law_announced" "_law_announced" (defArgs st__law_announced) (defBody st__law_announced) (defScope st__law_announced) .none kV6 dc6 pm6 an6 cd6 ct6), sl6⟩) (c6 : PySem.W.codeIn K cd6 "_law_announced" = true) (k6 : PySem.W.keepIn K (.ref f6) = true)
    (a7 : PySem.W.nsIn K mainGlobals "_law_node" = some (some (.ref f7))) (l7 : K.lookup f7 = some ⟨oc7, od7, .func (PySem.W.fnOf "_law_node" "_law_node" (defArgs st__law_node) (defBody st__law_node) (defScope st__law_node) .none kV7 dc7 pm7 an7 cd7 ct7), sl7⟩) (c7 : PySem.W.codeIn K cd7 "_law_node" = true) (k7 : PySem.W.keepIn K (.ref f7) = true)
    (a8 : PySem.W.nsIn K mainGlobals "_law_nodes" = some (some (.ref f8))) (l8 : K.lookup f8 = some ⟨oc8, od8, .func (PySem.W.fnOf "_law_nodes" "_law_nodes" (defArgs st__law_nodes) (defBody st__law_nodes) (defScope st__law_nodes) .none kV8 dc8 pm8 an8 cd8 ct8), sl8⟩) (c8 : PySem.W.codeIn K cd8 "_law_nodes" = true) (k8 : PySem.W.keepIn K (.ref f8) = true)
    (a9 : PySem.W.nsIn K mainGlobals "_law_pick" = some (some (.ref f9))) (l9 : K.lookup f9 = some ⟨oc9, od9, .func (PySem.W.fnOf "_law_pick" "_law_pick" (defArgs st__law_pick) (defBody st__law_pick) (defScope st__law_pick) .none kV9 dc9 pm9 an9 cd9 ct9), sl9⟩) (c9 : PySem.W.codeIn K cd9 "_law_pick" = true) (k9 : PySem.W.keepIn K (.ref f9) = true)
    (a10 : PySem.W.nsIn K mainGlobals "_law_noise" = some (some (.ref f10))) (l10 : K.lookup f10 = some ⟨oc10, od10, .func (PySem.W.fnOf "_law_noise" "_law_noise" (defArgs st__law_noise) (defBody st__law_noise) (defScope st__law_noise) .none kV10 dc10 pm10 an10 cd10 ct10), sl10⟩) (c10 : PySem.W.codeIn K cd10 "_law_noise" = true) (k10 : PySem.W.keepIn K (.ref f10) = true)
    (a11 : PySem.W.nsIn K mainGlobals "gap_of" = some (some (.ref f11))) (l11 : K.lookup f11 = some ⟨oc11, od11, .func (PySem.W.fnOf "gap_of" "gap_of" (defArgs st_gap_of) (defBody st_gap_of) (defScope st_gap_of) .none kV11 dc11 pm11 an11 cd11 ct11), sl11⟩) (c11 : PySem.W.codeIn K cd11 "gap_of" = true) (k11 : PySem.W.keepIn K (.ref f11) = true)
    (a12 : PySem.W.nsIn K mainGlobals "power_of" = some (some (.ref f12))) (l12 : K.lookup f12 = some ⟨oc12, od12, .func (PySem.W.fnOf "power_of" "power_of" (defArgs st_power_of) (defBody st_power_of) (defScope st_power_of) .none kV12 dc12 pm12 an12 cd12 ct12), sl12⟩) (c12 : PySem.W.codeIn K cd12 "power_of" = true) (k12 : PySem.W.keepIn K (.ref f12) = true)
    (a13 : PySem.W.nsIn K mainGlobals "base_of" = some (some (.ref f13))) (l13 : K.lookup f13 = some ⟨oc13, od13, .func (PySem.W.fnOf "base_of" "base_of" (defArgs st_base_of) (defBody st_base_of) (defScope st_base_of) .none kV13 dc13 pm13 an13 cd13 ct13), sl13⟩) (c13 : PySem.W.codeIn K cd13 "base_of" = true) (k13 : PySem.W.keepIn K (.ref f13) = true)
    (a14 : PySem.W.nsIn K mainGlobals "digits_of" = some (some (.ref f14))) (l14 : K.lookup f14 = some ⟨oc14, od14, .func (PySem.W.fnOf "digits_of" "digits_of" (defArgs st_digits_of) (defBody st_digits_of) (defScope st_digits_of) .none kV14 dc14 pm14 an14 cd14 ct14), sl14⟩) (c14 : PySem.W.codeIn K cd14 "digits_of" = true) (k14 : PySem.W.keepIn K (.ref f14) = true)
    (a15 : PySem.W.nsIn K mainGlobals "next_turn" = some (some (.ref f15))) (l15 : K.lookup f15 = some ⟨oc15, od15, .func (PySem.W.fnOf "next_turn" "next_turn" (defArgs st_next_turn) (defBody st_next_turn) (defScope st_next_turn) .none kV15 dc15 pm15 an15 cd15 ct15), sl15⟩) (c15 : PySem.W.codeIn K cd15 "next_turn" = true) (k15 : PySem.W.keepIn K (.ref f15) = true)
    (a16 : PySem.W.nsIn K mainGlobals "node_of" = some (some (.ref f16))) (l16 : K.lookup f16 = some ⟨oc16, od16, .func (PySem.W.fnOf "node_of" "node_of" (defArgs st_node_of) (defBody st_node_of) (defScope st_node_of) .none kV16 dc16 pm16 an16 cd16 ct16), sl16⟩) (c16 : PySem.W.codeIn K cd16 "node_of" = true) (k16 : PySem.W.keepIn K (.ref f16) = true)
    (a17 : PySem.W.nsIn K mainGlobals "denoted" = some (some (.ref f17))) (l17 : K.lookup f17 = some ⟨oc17, od17, .func (PySem.W.fnOf "denoted" "denoted" (defArgs st_denoted) (defBody st_denoted) (defScope st_denoted) .none kV17 dc17 pm17 an17 cd17 ct17), sl17⟩) (c17 : PySem.W.codeIn K cd17 "denoted" = true) (k17 : PySem.W.keepIn K (.ref f17) = true)
    (a18 : PySem.W.nsIn K mainGlobals "number_of" = some (some (.ref f18))) (l18 : K.lookup f18 = some ⟨oc18, od18, .func (PySem.W.fnOf "number_of" "number_of" (defArgs st_number_of) (defBody st_number_of) (defScope st_number_of) .none kV18 dc18 pm18 an18 cd18 ct18), sl18⟩) (c18 : PySem.W.codeIn K cd18 "number_of" = true) (k18 : PySem.W.keepIn K (.ref f18) = true)
    (a19 : PySem.W.nsIn K mainGlobals "previous_turn" = some (some (.ref f19))) (l19 : K.lookup f19 = some ⟨oc19, od19, .func (PySem.W.fnOf "previous_turn" "previous_turn" (defArgs st_previous_turn) (defBody st_previous_turn) (defScope st_previous_turn) .none kV19 dc19 pm19 an19 cd19 ct19), sl19⟩) (c19 : PySem.W.codeIn K cd19 "previous_turn" = true) (k19 : PySem.W.keepIn K (.ref f19) = true)
    (a20 : PySem.W.nsIn K mainGlobals "announced" = some (some (.ref f20))) (l20 : K.lookup f20 = some ⟨oc20, od20, .func (PySem.W.fnOf "announced" "announced" (defArgs st_announced) (defBody st_announced) (defScope st_announced) .none kV20 dc20 pm20 an20 cd20 ct20), sl20⟩) (c20 : PySem.W.codeIn K cd20 "announced" = true) (k20 : PySem.W.keepIn K (.ref f20) = true)
    (a21 : PySem.W.nsIn K mainGlobals "width" = some (some (.ref f21))) (l21 : K.lookup f21 = some ⟨oc21, od21, .func (PySem.W.fnOf "width" "width" (defArgs st_width) (defBody st_width) (defScope st_width) .none kV21 dc21 pm21 an21 cd21 ct21), sl21⟩) (c21 : PySem.W.codeIn K cd21 "width" = true) (k21 : PySem.W.keepIn K (.ref f21) = true)
    (a22 : PySem.W.nsIn K mainGlobals "_law_path_right" = some (some (.ref f22))) (l22 : K.lookup f22 = some ⟨oc22, od22, .func (PySem.W.fnOf "_law_path_right" "_law_path_right" (defArgs st__law_path_right) (defBody st__law_path_right) (defScope st__law_path_right) .none kV22 dc22 pm22 an22 cd22 ct22), sl22⟩) (c22 : PySem.W.codeIn K cd22 "_law_path_right" = true) (k22 : PySem.W.keepIn K (.ref f22) = true)
    (a23 : PySem.W.nsIn K mainGlobals "law" = some (some (.ref f23))) (l23 : K.lookup f23 = some ⟨oc23, od23, .func (PySem.W.fnOf "law" "law" (defArgs st_law) (defBody st_law) (defScope st_law) .none kV23 dc23 pm23 an23 cd23 ct23), sl23⟩) (c23 : PySem.W.codeIn K cd23 "law" = true) (k23 : PySem.W.keepIn K (.ref f23) = true)
    (z_divmod : PySem.W.nsIn K mainGlobals "divmod" = some none)
    (z_enumerate : PySem.W.nsIn K mainGlobals "enumerate" = some none)
    (z_int : PySem.W.nsIn K mainGlobals "int" = some none)
    (z_len : PySem.W.nsIn K mainGlobals "len" = some none)
    (z_list : PySem.W.nsIn K mainGlobals "list" = some none)
    (z_max : PySem.W.nsIn K mainGlobals "max" = some none)
    (z_range : PySem.W.nsIn K mainGlobals "range" = some none)
    (z_repr : PySem.W.nsIn K mainGlobals "repr" = some none)
    (z_tuple : PySem.W.nsIn K mainGlobals "tuple" = some none)
    (z_zip : PySem.W.nsIn K mainGlobals "zip" = some none)
    : ∃ fd : FuncData, (∀ (s : Shared) (v : Value), BindsTo s fd ⟨[v], []⟩ [("_law_script", v)]) ∧ ∀ base : Heap, K.In base → base.Ns mainGlobals mg → FnG l.prog w K mg base CX0 7 fa fd ["_law_script"] (cSp K asp_law) := by
  have e := hfa.symm.trans (PySem.W.mg_of X G a23)
  cases e
  have T : Txt mg := ⟨PySem.W.mg_none_of X G z_divmod, PySem.W.mg_none_of X G z_enumerate, PySem.W.mg_none_of X G z_int, PySem.W.mg_none_of X G z_len, PySem.W.mg_none_of X G z_list, PySem.W.mg_none_of X G z_max, PySem.W.mg_none_of X G z_range, PySem.W.mg_none_of X G z_repr, PySem.W.mg_none_of X G z_tuple, PySem.W.mg_none_of X G z_zip⟩
  have F1 := fun_mk (st := st__law_deck) l1 c1 k1
  have F2 := fun_mk (st := st__law_draw) l2 c2 k2
  have F3 := fun_mk (st := st__law_order) l3 c3 k3
  have F4 := fun_mk (st := st__law_power) l4 c4 k4
  have F5 := fun_mk (st := st__law_base) l5 c5 k5
  have F6 := fun_mk (st := st__law_announced) l6 c6 k6
  have F7 := fun_mk (st := st__law_node) l7 c7 k7
  have F8 := fun_mk (st := st__law_nodes) l8 c8 k8
  have F9 := fun_mk (st := st__law_pick) l9 c9 k9
  have F10 := fun_mk (st := st__law_noise) l10 c10 k10
  have F11 := fun_mk (st := st_gap_of) l11 c11 k11
  have F12 := fun_mk (st := st_power_of) l12 c12 k12
  have F13 := fun_mk (st := st_base_of) l13 c13 k13
  have F14 := fun_mk (st := st_digits_of) l14 c14 k14
  have F15 := fun_mk (st := st_next_turn) l15 c15 k15
  have F16 := fun_mk (st := st_node_of) l16 c16 k16
  have F17 := fun_mk (st := st_denoted) l17 c17 k17
  have F18 := fun_mk (st := st_number_of) l18 c18 k18
  have F19 := fun_mk (st := st_previous_turn) l19 c19 k19
  have F20 := fun_mk (st := st_announced) l20 c20 k20
  have F21 := fun_mk (st := st_width) l21 c21 k21
  have F22 := fun_mk (st := st__law_path_right) l22 c22 k22
  have F23 := fun_mk (st := st_law) l23 c23 k23
  refine ⟨PySem.W.fnOf "law" "law" (defArgs st_law) (defBody st_law) (defScope st_law) .none kV23 dc23 pm23 an23 cd23 ct23, fun s v => .of_eq rfl, fun base _ _ => ?_⟩
  have g1 : FnG l.prog w K mg base CX0 1 f1 _ ["_law_script"] (cSp K asp_deck) := ok_deck T   F1
  have q1 : Cg l.prog w K mg base CX0 1 "_law_deck" (cSp K asp_deck) := ⟨⟨f1, _, ["_law_script"], g1, PySem.W.mg_of X G a1, k1, F1.binds (ps := ["_law_script"]) fun _ _ _ _ _ _ us hl => match us, hl with | [_], _ => rfl⟩⟩
  have g2 : FnG l.prog w K mg base CX0 1 f2 _ ["_law_deck_here", "_law_many"] (cSp K asp_draw) := ok_draw T   F2
  have q2 : Cg l.prog w K mg base CX0 1 "_law_draw" (cSp K asp_draw) := ⟨⟨f2, _, ["_law_deck_here", "_law_many"], g2, PySem.W.mg_of X G a2, k2, F2.binds (ps := ["_law_deck_here", "_law_many"]) fun _ _ _ _ _ _ us hl => match us, hl with | [_, _], _ => rfl⟩⟩
  have g3 : FnG l.prog w K mg base CX0 2 f3 _ ["_law_deck_here", "_law_stations", "_law_most"] (cSp K asp_order) := ok_order T q2  F3
  have q3 : Cg l.prog w K mg base CX0 2 "_law_order" (cSp K asp_order) := ⟨⟨f3, _, ["_law_deck_here", "_law_stations", "_law_most"], g3, PySem.W.mg_of X G a3, k3, F3.binds (ps := ["_law_deck_here", "_law_stations", "_law_most"]) fun _ _ _ _ _ _ us hl => match us, hl with | [_, _, _], _ => rfl⟩⟩
  have g4 : FnG l.prog w K mg base CX0 1 f4 _ ["_law_size", "_law_many"] (cSp K asp_lpower) := ok_lpower T   F4
  have q4 : Cg l.prog w K mg base CX0 1 "_law_power" (cSp K asp_lpower) := ⟨⟨f4, _, ["_law_size", "_law_many"], g4, PySem.W.mg_of X G a4, k4, F4.binds (ps := ["_law_size", "_law_many"]) fun _ _ _ _ _ _ us hl => match us, hl with | [_, _], _ => rfl⟩⟩
  have g5 : FnG l.prog w K mg base CX0 2 f5 _ ["_law_size", "_law_order_here", "_law_who"] (cSp K asp_lbase) := ok_lbase T q4  F5
  have q5 : Cg l.prog w K mg base CX0 2 "_law_base" (cSp K asp_lbase) := ⟨⟨f5, _, ["_law_size", "_law_order_here", "_law_who"], g5, PySem.W.mg_of X G a5, k5, F5.binds (ps := ["_law_size", "_law_order_here", "_law_who"]) fun _ _ _ _ _ _ us hl => match us, hl with | [_, _, _], _ => rfl⟩⟩
  have g6 : FnG l.prog w K mg base CX0 3 f6 _ ["_law_size", "_law_order_here", "_law_who", "_law_nodes_here", "_law_goal"] (cSp K asp_lann) := ok_lann T q5  F6
  have q6 : Cg l.prog w K mg base CX0 3 "_law_announced" (cSp K asp_lann) := ⟨⟨f6, _, ["_law_size", "_law_order_here", "_law_who", "_law_nodes_here", "_law_goal"], g6, PySem.W.mg_of X G a6, k6, F6.binds (ps := ["_law_size", "_law_order_here", "_law_who", "_law_nodes_here", "_law_goal"]) fun _ _ _ _ _ _ us hl => match us, hl with | [_, _, _, _, _], _ => rfl⟩⟩
  have g7 : FnG l.prog w K mg base CX0 3 f7 _ ["_law_size", "_law_order_here", "_law_who", "_law_symbol", "_law_before"] (cSp K asp_lnode) := ok_lnode T q5 q4  F7
  have q7 : Cg l.prog w K mg base CX0 3 "_law_node" (cSp K asp_lnode) := ⟨⟨f7, _, ["_law_size", "_law_order_here", "_law_who", "_law_symbol", "_law_before"], g7, PySem.W.mg_of X G a7, k7, F7.binds (ps := ["_law_size", "_law_order_here", "_law_who", "_law_symbol", "_law_before"]) fun _ _ _ _ _ _ us hl => match us, hl with | [_, _, _, _, _], _ => rfl⟩⟩
  have g8 : FnG l.prog w K mg base CX0 4 f8 _ ["_law_size", "_law_order_here", "_law_who", "_law_marks"] (cSp K asp_lnodes) := ok_lnodes T q7  F8
  have q8 : Cg l.prog w K mg base CX0 4 "_law_nodes" (cSp K asp_lnodes) := ⟨⟨f8, _, ["_law_size", "_law_order_here", "_law_who", "_law_marks"], g8, PySem.W.mg_of X G a8, k8, F8.binds (ps := ["_law_size", "_law_order_here", "_law_who", "_law_marks"]) fun _ _ _ _ _ _ us hl => match us, hl with | [_, _, _, _], _ => rfl⟩⟩
  have g9 : FnG l.prog w K mg base CX0 2 f9 _ ["_law_deck_here", "_law_some"] (cSp K asp_pick) := ok_pick T q2  F9
  have q9 : Cg l.prog w K mg base CX0 2 "_law_pick" (cSp K asp_pick) := ⟨⟨f9, _, ["_law_deck_here", "_law_some"], g9, PySem.W.mg_of X G a9, k9, F9.binds (ps := ["_law_deck_here", "_law_some"]) fun _ _ _ _ _ _ us hl => match us, hl with | [_, _], _ => rfl⟩⟩
  have g10 : FnG l.prog w K mg base CX0 3 f10 _ ["_law_deck_here", "_law_size", "_law_order_here", "_law_who", "_law_marks"] (cSp K asp_noise) := ok_noise T q5 q2 q9  F10
  have q10 : Cg l.prog w K mg base CX0 3 "_law_noise" (cSp K asp_noise) := ⟨⟨f10, _, ["_law_deck_here", "_law_size", "_law_order_here", "_law_who", "_law_marks"], g10, PySem.W.mg_of X G a10, k10, F10.binds (ps := ["_law_deck_here", "_law_size", "_law_order_here", "_law_who", "_law_marks"]) fun _ _ _ _ _ _ us hl => match us, hl with | [_, _, _, _, _], _ => rfl⟩⟩
  have g11 : FnG l.prog w K mg base CX0 1 f11 _ ["talk", "station"] (cSp K asp_gap_of) := ok_gap_of T   F11
  have q11 : Cg l.prog w K mg base CX0 1 "gap_of" (cSp K asp_gap_of) := ⟨⟨f11, _, ["talk", "station"], g11, PySem.W.mg_of X G a11, k11, F11.binds (ps := ["talk", "station"]) fun _ _ _ _ _ _ us hl => match us, hl with | [_, _], _ => rfl⟩⟩
  have g12 : FnG l.prog w K mg base CX0 1 f12 _ ["size", "count"] (cSp K asp_power_of) := ok_power_of T   F12
  have q12 : Cg l.prog w K mg base CX0 1 "power_of" (cSp K asp_power_of) := ⟨⟨f12, _, ["size", "count"], g12, PySem.W.mg_of X G a12, k12, F12.binds (ps := ["size", "count"]) fun _ _ _ _ _ _ us hl => match us, hl with | [_, _], _ => rfl⟩⟩
  have g13 : FnG l.prog w K mg base CX0 2 f13 _ ["talk", "station"] (cSp K asp_base_of) := ok_base_of T q11 q12  F13
  have q13 : Cg l.prog w K mg base CX0 2 "base_of" (cSp K asp_base_of) := ⟨⟨f13, _, ["talk", "station"], g13, PySem.W.mg_of X G a13, k13, F13.binds (ps := ["talk", "station"]) fun _ _ _ _ _ _ us hl => match us, hl with | [_, _], _ => rfl⟩⟩
  have g14 : FnG l.prog w K mg base CX0 1 f14 _ ["number", "size", "count"] (cSp K asp_digits_of) := ok_digits_of T   F14
  have q14 : Cg l.prog w K mg base CX0 1 "digits_of" (cSp K asp_digits_of) := ⟨⟨f14, _, ["number", "size", "count"], g14, PySem.W.mg_of X G a14, k14, F14.binds (ps := ["number", "size", "count"]) fun _ _ _ _ _ _ us hl => match us, hl with | [_, _, _], _ => rfl⟩⟩
  have g15 : FnG l.prog w K mg base CX0 1 f15 _ ["talk", "station", "turn"] (cSp K asp_next_turn) := ok_next_turn T   F15
  have q15 : Cg l.prog w K mg base CX0 1 "next_turn" (cSp K asp_next_turn) := ⟨⟨f15, _, ["talk", "station", "turn"], g15, PySem.W.mg_of X G a15, k15, F15.binds (ps := ["talk", "station", "turn"]) fun _ _ _ _ _ _ us hl => match us, hl with | [_, _, _], _ => rfl⟩⟩
  have g16 : FnG l.prog w K mg base CX0 3 f16 _ ["talk", "station", "symbol", "nodes"] (cSp K asp_node_of) := ok_node_of T q13 q14 q15  F16
  have q16 : Cg l.prog w K mg base CX0 3 "node_of" (cSp K asp_node_of) := ⟨⟨f16, _, ["talk", "station", "symbol", "nodes"], g16, PySem.W.mg_of X G a16, k16, F16.binds (ps := ["talk", "station", "symbol", "nodes"]) fun _ _ _ _ _ _ us hl => match us, hl with | [_, _, _, _], _ => rfl⟩⟩
  have g17 : FnG l.prog w K mg base CX0 4 f17 _ ["talk", "station", "symbols"] (cSp K asp_denoted) := ok_denoted T q16  F17
  have q17 : Cg l.prog w K mg base CX0 4 "denoted" (cSp K asp_denoted) := ⟨⟨f17, _, ["talk", "station", "symbols"], g17, PySem.W.mg_of X G a17, k17, F17.binds (ps := ["talk", "station", "symbols"]) fun _ _ _ _ _ _ us hl => match us, hl with | [_, _, _], _ => rfl⟩⟩
  have g18 : FnG l.prog w K mg base CX0 1 f18 _ ["letters", "size"] (cSp K asp_number_of) := ok_number_of T   F18
  have q18 : Cg l.prog w K mg base CX0 1 "number_of" (cSp K asp_number_of) := ⟨⟨f18, _, ["letters", "size"], g18, PySem.W.mg_of X G a18, k18, F18.binds (ps := ["letters", "size"]) fun _ _ _ _ _ _ us hl => match us, hl with | [_, _], _ => rfl⟩⟩
  have g19 : FnG l.prog w K mg base CX0 1 f19 _ ["talk", "station", "turn"] (cSp K asp_previous_turn) := ok_previous_turn T   F19
  have q19 : Cg l.prog w K mg base CX0 1 "previous_turn" (cSp K asp_previous_turn) := ⟨⟨f19, _, ["talk", "station", "turn"], g19, PySem.W.mg_of X G a19, k19, F19.binds (ps := ["talk", "station", "turn"]) fun _ _ _ _ _ _ us hl => match us, hl with | [_, _, _], _ => rfl⟩⟩
  have g20 : FnG l.prog w K mg base CX0 5 f20 _ ["talk", "station", "symbols", "node"] (cSp K asp_announced) := ok_announced T q13 q17 q18 q19  F20
  have q20 : Cg l.prog w K mg base CX0 5 "announced" (cSp K asp_announced) := ⟨⟨f20, _, ["talk", "station", "symbols", "node"], g20, PySem.W.mg_of X G a20, k20, F20.binds (ps := ["talk", "station", "symbols", "node"]) fun _ _ _ _ _ _ us hl => match us, hl with | [_, _, _, _], _ => rfl⟩⟩
  have g21 : FnG l.prog w K mg base CX0 3 f21 _ ["talk", "station", "rounds"] (cSp K asp_width) := ok_width T q13  F21
  have q21 : Cg l.prog w K mg base CX0 3 "width" (cSp K asp_width) := ⟨⟨f21, _, ["talk", "station", "rounds"], g21, PySem.W.mg_of X G a21, k21, F21.binds (ps := ["talk", "station", "rounds"]) fun _ _ _ _ _ _ us hl => match us, hl with | [_, _, _], _ => rfl⟩⟩
  have qk1 : Cgk l.prog w K mg base CX0 5 "announced" ["node", "symbols", "station", "talk"] (cSp K (askOf [3, 2, 1, 0] 4 asp_announced)) := cgk_of (ks := ["node", "symbols", "station", "talk"]) [3, 2, 1, 0] g20 (PySem.W.mg_of X G a20) k20 (fun s ws _ hl => match ws, hl with | [_, _, _, _], _ => .of_eq rfl)
  have g22 : FnG l.prog w K mg base CX0 6 f22 _ ["_law_deck_here", "_law_plan", "_law_other", "_law_who"] (cSp K asp_path) := ok_path T q6 q2 q8 q10 q20 q17 q21 qk1 F22
  have q22 : Cg l.prog w K mg base CX0 6 "_law_path_right" (cSp K asp_path) := ⟨⟨f22, _, ["_law_deck_here", "_law_plan", "_law_other", "_law_who"], g22, PySem.W.mg_of X G a22, k22, F22.binds (ps := ["_law_deck_here", "_law_plan", "_law_other", "_law_who"]) fun _ _ _ _ _ _ us hl => match us, hl with | [_, _, _, _], _ => rfl⟩⟩
  exact ok_law T q1 q2 q3 q22  F23
end K11
open PySem PySem.W PyProof.Rows in
set_option maxRecDepth 100000 in
set_option maxHeartbeats 0 in
theorem PySem.Challenge.cw_lyingwire_k11_announced_symbols_holds : PySem.Challenge.rw_lyingwire_k11_announced_symbols.Holds := by
  w_on; o_law; k_head; (case hw => w_witness2)
  k_fill
  refine L3.walk_ofG (l := PySem.Challenge.rw_lyingwire_k11_announced_symbols) (n := 63) (k := 7) (x := "_law_script") (sp := fun K => L4.cSp K K11.asp_law) rfl (by decide) rfl ⟨rfl, by decide, by decide⟩ (fun w h Y => PySem.W.kIn_of Y) ?F (fun _ H a ns hl hS _ => L4.law_start hS ⟨ns, rfl, rfl, hl, fun _ => rfl⟩)
  case F =>
    intro w mg fa h KX G hmg
    refine' K11.all_mk KX G hmg ?a1 ?l1 ?c1 ?k1 ?a2 ?l2 ?c2 ?k2 ?a3 ?l3 ?c3 ?k3 ?a4 ?l4 ?c4 ?k4 ?a5 ?l5 ?c5 ?k5 ?a6 ?l6 ?c6 ?k6 ?a7 ?l7 ?c7 ?k7 ?a8 ?l8 ?c8 ?k8 ?a9 ?l9 ?c9 ?k9 ?a10 ?l10 ?c10 ?k10 ?a11 ?l11 ?c11 ?k11 ?a12 ?l12 ?c12 ?k12 ?a13 ?l13 ?c13 ?k13 ?a14 ?l14 ?c14 ?k14 ?a15 ?l15 ?c15 ?k15 ?a16 ?l16 ?c16 ?k16 ?a17 ?l17 ?c17 ?k17 ?a18 ?l18 ?c18 ?k18 ?a19 ?l19 ?c19 ?k19 ?a20 ?l20 ?c20 ?k20 ?a21 ?l21 ?c21 ?k21 ?a22 ?l22 ?c22 ?k22 ?a23 ?l23 ?c23 ?k23 ?z_divmod ?z_enumerate ?z_int ?z_len ?z_list ?z_max ?z_range ?z_repr ?z_tuple ?z_zip
    (case a1 => k_is)
    (case l1 => k_is)
    (case c1 => k_is)
    (case k1 => k_is)
    (case a2 => k_is)
    (case l2 => k_is)
    (case c2 => k_is)
    (case k2 => k_is)
    (case a3 => k_is)
    (case l3 => k_is)
    (case c3 => k_is)
    (case k3 => k_is)
    (case a4 => k_is)
    (case l4 => k_is)
    (case c4 => k_is)
    (case k4 => k_is)
    (case a5 => k_is)
    (case l5 => k_is)
    (case c5 => k_is)
    (case k5 => k_is)
    (case a6 => k_is)
    (case l6 => k_is)
    (case c6 => k_is)
    (case k6 => k_is)
    (case a7 => k_is)
    (case l7 => k_is)
    (case c7 => k_is)
    (case k7 => k_is)
    (case a8 => k_is)
    (case l8 => k_is)
    (case c8 => k_is)
    (case k8 => k_is)
    (case a9 => k_is)
    (case l9 => k_is)
    (case c9 => k_is)
    (case k9 => k_is)
    (case a10 => k_is)
    (case l10 => k_is)
    (case c10 => k_is)
    (case k10 => k_is)
    (case a11 => k_is)
    (case l11 => k_is)
    (case c11 => k_is)
    (case k11 => k_is)
    (case a12 => k_is)
    (case l12 => k_is)
    (case c12 => k_is)
    (case k12 => k_is)
    (case a13 => k_is)
    (case l13 => k_is)
    (case c13 => k_is)
    (case k13 => k_is)
    (case a14 => k_is)
    (case l14 => k_is)
    (case c14 => k_is)
    (case k14 => k_is)
    (case a15 => k_is)
    (case l15 => k_is)
    (case c15 => k_is)
    (case k15 => k_is)
    (case a16 => k_is)
    (case l16 => k_is)
    (case c16 => k_is)
    (case k16 => k_is)
    (case a17 => k_is)
    (case l17 => k_is)
    (case c17 => k_is)
    (case k17 => k_is)
    (case a18 => k_is)
    (case l18 => k_is)
    (case c18 => k_is)
    (case k18 => k_is)
    (case a19 => k_is)
    (case l19 => k_is)
    (case c19 => k_is)
    (case k19 => k_is)
    (case a20 => k_is)
    (case l20 => k_is)
    (case c20 => k_is)
    (case k20 => k_is)
    (case a21 => k_is)
    (case l21 => k_is)
    (case c21 => k_is)
    (case k21 => k_is)
    (case a22 => k_is)
    (case l22 => k_is)
    (case c22 => k_is)
    (case k22 => k_is)
    (case a23 => k_is)
    (case l23 => k_is)
    (case c23 => k_is)
    (case k23 => k_is)
    (case z_divmod => k_is)
    (case z_enumerate => k_is)
    (case z_int => k_is)
    (case z_len => k_is)
    (case z_list => k_is)
    (case z_max => k_is)
    (case z_range => k_is)
    (case z_repr => k_is)
    (case z_tuple => k_is)
    (case z_zip => k_is)

