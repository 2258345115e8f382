import PyProof.Rows.All
import Wide.All
import OpenK.AllK
import Wide.FinOn
import HandS.ForMost
import HandS.TupAny
import KE.GoesEnum
import HandS.TupMul
import HandS.Style
import HandS.Conv
import HandS.Walk
import HandS.Deep
import HandS.SetFor
import HandS.Star
import KE.KStar
import PyProof.ReprLen
import HandS.Property
import HandS.IsInst
import HandS.OwnEq
import HandS.Dict
import HandS.Defaults
import HandS.Strs
import PyProof.DictUpdate
import KE.KUnpackStar
import HandS.TryOnly
import KE.GoesZip
import KE.GoesEnumKw
import HandS.ClsMeth
import HandS.DictEq
import HandS.Wide
import KE.KRevSl
import HandS.SetKeys
import HandS.More
import HandS.SetBool
import KE.LtData
import PyProof.StrOps2
import PySem.Challenge.RW_lyingwire_k16_long_lists_and_letters_of
set_option Elab.async false
set_option maxRecDepth 100000
set_option maxHeartbeats 4000000
/-! walks that hand out new tuples: enumerate and zip over lists and tuples, in any mix. -/
namespace L3
open PySem PySem.Spec PyProof.Rows L2
abbrev St := L2.St
/-- n turns, each handing out a new tuple of values; the source is what G says -/
def Itu (n : Nat) (G : Hp → Prop) (Y : Nat → List V → Prop) : It :=
  ⟨fun i H => i < n ∧ G H, fun i H v H' => ∃ T vs, v = .ref T ∧ H T = none ∧ H' = upd H T (.tup vs) ∧ Y i vs, fun i H => i = n ∧ G H⟩

theorem turn_of {P : Program} {w : World} {K : PySem.W.Frag} {elts : List Expr} {kk : Nat} {tpos : Pos} {e : Addr} {fp wr : List Addr} {n : Nat} {G : Hp → Prop} {Y : Nat → List V → Prop} {S : Nat → Heap → Prop}
    (hmem : e ∈ fp) (hwr : ∀ b ∈ wr, b ∈ fp) (hobj : ∀ i h, S i h → ∀ b ∈ fp, ∃ o, h.get? b = some o ∧ ∀ v, o.data ≠ .cell v)
    (hkeep : ∀ i h h', S i h → (∀ b ∈ fp, ∀ o, h.get? b = some o → h'.get? b = some o) → S i h')
    (hself : ∀ (A : Around) (i : Nat) (s : Shared) (Q : Value → Shared → Prop) (E : Value → Shared → Prop), S i s.heap → Q (.ref e) s → wpAny (model P w) A (pyIter (.ref e)) Q E s)
    (hC : ∀ (X : Cx) pins σ H s, X.prog = P → X.w = w → X.K = K → X.calm = true → Inv X pins σ H s → G H → ∃ (fq : List Addr) (Pt : Nat → Array Value → Prop) (Mid : Nat → Addr → Heap → Prop) (C : Heap → Prop),
      WalksT P w X.A e fq wr n Pt (fun i h => S i h ∧ C h) Mid ∧ C s.heap ∧ ∀ i vals, Pt i vals → ∃ vs, Vals vs vals.toList ∧ Y i vs ∧ vs.length ≤ sizeLine) :
    Turn P w K (.Tuple elts kk tpos) (Itu n G Y) fp e S where
  mem := hmem
  obj := hobj
  keep := hkeep
  item := by
    intro X hP hw hK hc i pins s σ H E I hf st hg
    obtain ⟨hi, g⟩ := hg
    obtain ⟨fq, Pt, Mid, C, W, c, hY⟩ := hC X pins σ H s hP hw hK hc I g
    subst hP hw hK
    refine W.item i s _ E hi ⟨st, c⟩ fun T vals h1 tk hPt hT hTup hmid hk => ?_
    refine ⟨_, rfl, W.go elts kk tpos i T _ _ _ hmid fun h2 st2 hk2 => ?_⟩
    obtain ⟨vs, rv, y, hl⟩ := hY i vals hPt
    have hT2 : h2.IsTuple T vals := hTup.at fun o q => hk2 T o (W.apart i T h1 hmid) q
    have new : ObjOk X.prog X.w (upd H T (.tup vs)) h2 T (.tup vs) := ⟨hl, vals.toList, rv, hT2⟩
    have I1 : Inv X pins σ (upd H T (.tup vs)) { s with heap := h2, toks := tk } :=
      I.turnedNew (ch := wr) (fun b ob hb q => hk2 b ob hb (hk b ob hb q)) (fun b hb => hf b (hwr b hb)) hT new
    refine ⟨.ref T, _, I1, rfl, ⟨T, vs, rfl, I.hok.fresh hT, rfl, y⟩, st2.1, fun b hb => ?_⟩
    obtain ⟨o, ho, _⟩ := hobj i s.heap st b hb
    rw [upd_ne (Nat.ne_of_lt (Nat.lt_of_lt_of_le (Heap.lt_size ho) hT))]
    exact (hf b hb).1
  done := by
    intro X hP hw hK hc i pins s σ H E I hf st hg
    obtain ⟨rfl, g⟩ := hg
    obtain ⟨fq, Pt, Mid, C, W, c, hY⟩ := hC X pins σ H s hP hw hK hc I g
    subst hP hw hK
    exact W.done s _ E ⟨st, c⟩ fun h1 tk hk => ⟨rfl, I.turnedL (ch := wr) hk fun b hb => hf b (hwr b hb)⟩
  self := hself

/-- a list or a tuple of the values xs stands at a -/
def Sq (K : PySem.W.Frag) (H : Hp) (a : Addr) (xs : List V) : Prop := SqL K H a xs ∨ SqT K H a xs
/-- a list or a tuple as a source of an iterator -/
structure Kd (K : PySem.W.Frag) (a : Addr) (xs : List V) where
  o : Obj
  S : Nat → Addr → Heap → Prop
  C : List Value → Heap → Prop
  G : Hp → Prop
  begins : ∀ its : List Value, Begins (.ref a) o (C its)
  start : ∀ h it, h.get? it = some o → S 0 it h
  draws : ∀ (prog : Program) (w : World) (A : Around) (it : Addr) (its : List Value), A.handled = none → a ≠ it → Draws prog w A it [it, a] its.length (fun i v => its[i]? = some v) (fun i h => S i it h ∧ C its h)
  live : ∀ i it h, S i it h → ∃ u, h.get? it = some u ∧ ∀ v, u.data ≠ .cell v
  keep : ∀ i it h h', S i it h → (∀ u, h.get? it = some u → h'.get? it = some u) → S i it h'
  cont : ∀ (X : Cx) pins σ H s, X.K = K → Inv X pins σ H s → G H → ∃ its, Vals xs its ∧ C its s.heap ∧ a < s.heap.objs.size
def kdL (K : PySem.W.Frag) (a : Addr) (xs : List V) : Kd K a xs where
  o := { cls := .type "list_iterator", data := .fields #[.ref a, .int 0 0] }
  S := fun i it h => h.IsListIter it a i
  C := fun its h => h.IsList a its.toArray
  G := fun H => SqL K H a xs
  begins := fun its => begins_list a its.toArray
  start := fun h it e => ⟨_, e, rfl, rfl⟩
  draws := fun prog w A it its hh hne => by
    have D := Draws.list (prog := prog) (w := w) (A := A) hh it a hne its.toArray
    simpa using D
  live := fun i it h st => let ⟨u, hu, _, hd⟩ := st; ⟨u, hu, fun v q => by rw [hd] at q; cases q⟩
  keep := fun i it h h' st k => st.at k
  cont := fun X pins σ H s hK I g => by
    subst hK
    obtain ⟨its, rv, p, _⟩ := I.list g
    exact ⟨its, rv, p.isList, p.lt⟩
def kdT (K : PySem.W.Frag) (a : Addr) (xs : List V) : Kd K a xs where
  o := { cls := .type "tuple_iterator", data := .fields #[.ref a, .int 0 0] }
  S := fun i it h => h.IsTupleIter it a i
  C := fun its h => h.IsTuple a its.toArray
  G := fun H => SqT K H a xs
  begins := fun its => begins_tuple a its.toArray
  start := fun h it e => ⟨_, e, rfl, rfl⟩
  draws := fun prog w A it its hh hne => by
    have D := Draws.tuple (prog := prog) (w := w) (A := A) hh it a hne its.toArray
    simpa using D
  live := fun i it h st => let ⟨u, hu, _, hd⟩ := st; ⟨u, hu, fun v q => by rw [hd] at q; cases q⟩
  keep := fun i it h h' st k => st.at k
  cont := fun X pins σ H s hK I g => by
    subst hK
    obtain ⟨its, rv, p, _⟩ := I.tuple g
    exact ⟨its, rv, p, p.lt⟩
theorem Sq.kd {K : PySem.W.Frag} {H : Hp} {a : Addr} {xs : List V} (h : Sq K H a xs) : ∃ kd : Kd K a xs, kd.G H ∧ ∀ H', kd.G H' → Sq K H' a xs := by
  rcases h with h | h
  · exact ⟨kdL K a xs, h, fun _ g => .inl g⟩
  · exact ⟨kdT K a xs, h, fun _ g => .inr g⟩

set_option maxHeartbeats 1000000 in
theorem meets_enum1 {v : Value} {o : Obj} {H : Heap → Prop} (B : Begins v o H) :
    Meets (Builtin.«enumerate.__new__» ⟨[.type "enumerate", v], []⟩) (fun _ R s => H s.heap ∧
      R (.ok (.ret (.ref (s.heap.push o).objs.size))) { s with heap := (s.heap.push o).push { cls := .type "enumerate", data := .fields #[.none, .bool false, .ref s.heap.objs.size, rawInt 0, .none, .none] } }) :=
  .of_wp fun prog w A R s hh => by
    obtain ⟨hp, g, d, tk, os⟩ := s
    obtain ⟨h1, hR⟩ := hh
    have hsub := sub_enumerate
    have it1 : ∀ {A' : Around} {E : Value → Shared → Prop} {Q : Value → Shared → Prop}, Q (.ref hp.objs.size) ⟨hp.push o, g, d, tk, os⟩ → wpAny (model prog w) A' (pyIter v) Q E ⟨hp, g, d, tk, os⟩ :=
      fun q => B.iter prog w _ _ ⟨hp, g, d, tk, os⟩ _ h1 q
    wp_walk using it1
    refine wpAny_stack_any fun stk => wpAny_pure ?_
    split
    · rename_i c _ _ _ _ _
      cases (c == Value.type "enumerate") <;> (wp_walk using it1; exact ⟨_, rfl, hR⟩)
    · wp_walk using it1
      exact ⟨_, rfl, hR⟩
theorem enum1_begins {prog : Program} {w : World} {A : Around} {E : Value → Shared → Prop} {s : Shared} {v : Value} {o : Obj} {H : Heap → Prop} {Q : Value → Shared → Prop} (B : Begins v o H) (h1 : H s.heap)
    (h : ∀ h', IsEnum h' (s.heap.objs.size + 1) s.heap.objs.size 0 .none → h'.get? s.heap.objs.size = some o → h'.objs.size = s.heap.objs.size + 2 →
      (∀ b u, s.heap.get? b = some u → h'.get? b = some u) → Q (.ref (s.heap.objs.size + 1)) { s with heap := h' }) :
    wpAny (model prog w) A (call (.type "enumerate") [v]) Q E s := by
  refine callType_new F.called_enumerate (by decide) (F.typeCall_enumerate_1 _) (F.newCall_enumerate_1 _) (fun obj => F.args_object_init_2 obj _) F.entry_enumerate_new (meets_enum1 B) ⟨h1, ?_⟩
  have hz : (s.heap.push o).objs.size = s.heap.objs.size + 1 := Heap.size_push ..
  show _ ∧ _
  rw [hz]
  have he := Heap.get?_push_size (s.heap.push o) (o := { cls := .type "enumerate", data := .fields #[.none, .bool false, .ref s.heap.objs.size, rawInt 0, .none, .none] }) rfl
  rw [hz] at he
  exact ⟨⟨_, he, rfl⟩, h _ he (Heap.get?_push_of_some _ (Heap.get?_push_size _ B.free)) (by rw [Heap.size_push, hz]) fun b u x => Heap.get?_push_of_some _ (Heap.get?_push_of_some _ x)⟩

/-- for .. in enumerate(a list or a tuple) -/
def YEnum (xs : List V) : Nat → List V → Prop := fun i us => ∃ x, xs[i]? = some x ∧ us = [.int (i : Nat), x]
def iEnumS (K : PySem.W.Frag) (ta : TA) : TI := fun σ H R => ta σ H fun vs H1 => ∃ a xs, vs = [.ref a] ∧
  ((SqL K H1 a xs ∧ R (Itu xs.length (fun H => SqL K H a xs) (YEnum xs)) H1) ∨ (SqT K H1 a xs ∧ R (Itu xs.length (fun H => SqT K H a xs) (YEnum xs)) H1))
theorem pi_enumS {X : Cx} {e : Expr} {ta : TA} {p pos tpos : Pos} {elts : List Expr} {kk : Nat} (hg : Gl X "enumerate") (hm : X.mg "enumerate" = none) (ha : PA X [e] ta) (hs : starEach [e] X.env = [(false, eval e X.env)] := by rfl) :
    PI X (.Tuple elts kk tpos) (.Call (.Name "enumerate" p) [e] [] pos) (iEnumS X.K ta) := by
  refine ⟨fun pins s σ H R I h => ?_⟩
  refine Call_ (ld_blt I hg hm boot_enumerate (PyProof.Rows.callWith_type1 (thn (ha.run pos pins s σ H _ I h) fun us s1 ⟨vs, H1, I1, r1, q1⟩ => ?_) hs rfl))
  obtain ⟨a, xs, ex, hq⟩ := q1
  subst ex
  cases r1 with
  | cons r rr =>
    cases rr
    cases r
    have go : ∀ kd : Kd X.K a xs, kd.G H1 → R (Itu xs.length kd.G (YEnum xs)) H1 →
        wpAny (model X.prog X.w) X.A (call (.type "enumerate") [.ref a]) (fun v s1 => wpAny (model X.prog X.w) X.A (pyIter v) (PIE X pins σ (.Tuple elts kk tpos) R) X.xe s1) X.xe s1 := by
      intro kd g q
      obtain ⟨its, rv, hc, hlt⟩ := kd.cont X pins σ H1 s1 rfl I1 g
      refine enum1_begins (kd.begins its) hc fun h1 he hit hsz hk => wpAny_pyIter_enum he ?_
      have I2 : Inv X pins σ H1 { s1 with heap := h1 } := I1.kept (t' := s1.toks) hk
      refine ⟨s1.heap.objs.size + 1, [s1.heap.objs.size + 1, s1.heap.objs.size], fun i h => (∃ old, IsEnum h (s1.heap.objs.size + 1) s1.heap.objs.size (0 + (i : Int)) old) ∧ kd.S i s1.heap.objs.size h, _, H1, rfl, I2,
        turn_of (wr := [s1.heap.objs.size + 1, s1.heap.objs.size]) (by simp) (fun b hb => hb) (fun i h st b hb => ?_) (fun i h h' st k => ?_) (fun A i s Q E st hQ => ?_) (fun Y pins' σ' H' s' hP hw hK hcalm I' g' => ?_),
        ⟨⟨.none, he⟩, kd.start _ _ hit⟩, fun b hb => ?_, q⟩
      · obtain ⟨⟨old, he'⟩, st'⟩ := st
        have e' : b = s1.heap.objs.size + 1 ∨ b = s1.heap.objs.size := by simpa using hb
        rcases e' with z | z
        · rw [z]; exact ⟨_, he', fun v q => nomatch q⟩
        · rw [z]; exact kd.live i _ h st'
      · obtain ⟨⟨old, he'⟩, st'⟩ := st
        exact ⟨⟨old, k _ (by simp) _ he'⟩, kd.keep i _ h h' st' fun u hu => k _ (by simp) u hu⟩
      · obtain ⟨⟨old, he'⟩, _⟩ := st
        exact wpAny_pyIter_enum he' hQ
      · obtain ⟨its', rv', hc', hlt'⟩ := kd.cont Y pins' σ' H' s' hK I' g'
        have ne1 : a ≠ s1.heap.objs.size := Nat.ne_of_lt hlt
        have D := kd.draws Y.prog Y.w Y.A.in1 s1.heap.objs.size its' (I'.ok.hd hcalm) ne1
        have W := WalksT.enumFrom (A := Y.A) 0 D (s1.heap.objs.size + 1) (Nat.succ_ne_self _) (fun hm => by
          have e' : s1.heap.objs.size + 1 = s1.heap.objs.size ∨ s1.heap.objs.size + 1 = a := by simpa using hm
          rcases e' with z | z
          · exact absurd z (Nat.succ_ne_self _)
          · rw [← z] at hlt; exact absurd (Nat.lt_trans (Nat.lt_succ_self _) hlt) (Nat.lt_irrefl _)) (by simp)
        rw [hP, hw] at W
        have e : (fun (i : Nat) (h : Heap) => (∃ old, IsEnum h (s1.heap.objs.size + 1) s1.heap.objs.size (0 + (i : Int)) old) ∧ kd.S i s1.heap.objs.size h ∧ kd.C its' h) = fun (i : Nat) (h : Heap) => ((∃ old, IsEnum h (s1.heap.objs.size + 1) s1.heap.objs.size (0 + (i : Int)) old) ∧ kd.S i s1.heap.objs.size h) ∧ kd.C its' h := by
          funext i h; rw [and_assoc]
        rw [e, ← rv'.length] at W
        refine ⟨_, _, _, kd.C its', W, hc', ?_⟩
        · rintro i vals ⟨t, x, hx, rfl⟩
          have hx' : its'[i]? = some x := hx
          have hl : i < xs.length := by rw [rv'.length]; exact (List.getElem?_eq_some_iff.mp hx').1
          obtain ⟨u, hu, ru⟩ := rv'.get (List.getElem?_eq_getElem hl)
          rw [hx'] at hu
          cases hu
          refine ⟨[.int (i : Nat), xs[i]], .cons ⟨t, ?_⟩ (.cons ru .nil), ⟨_, List.getElem?_eq_getElem hl, rfl⟩, by show 2 ≤ sizeLine; decide⟩
          rw [Int.zero_add]
      · have e' : b = s1.heap.objs.size + 1 ∨ b = s1.heap.objs.size := by simpa using hb
        have hle : s1.heap.objs.size ≤ b := by
          rcases e' with z | z
          · rw [z]; exact Nat.le_add_right _ _
          · rw [z]; exact Nat.le_refl _
        exact I1.fpOk hle (I1.hok.fresh hle)
    rcases hq with ⟨g, q⟩ | ⟨g, q⟩
    · exact go (kdL X.K a xs) g q
    · exact go (kdT X.K a xs) g q

/-- zip of two lists or tuples, in any mix -/
def YZip (xs ys : List V) : Nat → List V → Prop := fun i us => ∃ x y, xs[i]? = some x ∧ ys[i]? = some y ∧ us = [x, y]
def iZipS (K : PySem.W.Frag) (ta : TA) : TI := fun σ H R => ta σ H fun vs H1 => ∃ a b xs ys, vs = [.ref a, .ref b] ∧
  ((SqL K H1 a xs ∧ SqL K H1 b ys ∧ R (Itu (min xs.length ys.length) (fun H => SqL K H a xs ∧ SqL K H b ys) (YZip xs ys)) H1) ∨
   (SqL K H1 a xs ∧ SqT K H1 b ys ∧ R (Itu (min xs.length ys.length) (fun H => SqL K H a xs ∧ SqT K H b ys) (YZip xs ys)) H1) ∨
   (SqT K H1 a xs ∧ SqL K H1 b ys ∧ R (Itu (min xs.length ys.length) (fun H => SqT K H a xs ∧ SqL K H b ys) (YZip xs ys)) H1) ∨
   (SqT K H1 a xs ∧ SqT K H1 b ys ∧ R (Itu (min xs.length ys.length) (fun H => SqT K H a xs ∧ SqT K H b ys) (YZip xs ys)) H1))
theorem pi_zipS {X : Cx} {e e2 : Expr} {ta : TA} {p pos tpos : Pos} {elts : List Expr} {kk : Nat} (hg : Gl X "zip") (hm : X.mg "zip" = none) (ha : PA X [e, e2] ta)
    (hs : starEach [e, e2] X.env = (false, eval e X.env) :: starEach [e2] X.env := by rfl) (hpl : (backTo pos (starEach [e2] X.env)).any (·.1) = false := by rfl) :
    PI X (.Tuple elts kk tpos) (.Call (.Name "zip" p) [e, e2] [] pos) (iZipS X.K ta) := by
  refine ⟨fun pins s σ H R I h => ?_⟩
  refine Call_ (ld_blt I hg hm PyProof.Rows.boot_zip (PyProof.Rows.callWith_type1 (thn (ha.run pos pins s σ H _ I h) fun us s1 ⟨vs, H1, I1, r1, q1⟩ => ?_) hs hpl))
  obtain ⟨a, b, xs, ys, ex, hq⟩ := q1
  subst ex
  cases r1 with
  | cons r rr =>
    cases rr with
    | cons r' rr =>
      cases rr
      cases r
      cases r'
      have go : ∀ (kd : Kd X.K a xs) (kf : Kd X.K b ys), kd.G H1 → kf.G H1 → R (Itu (min xs.length ys.length) (fun H => kd.G H ∧ kf.G H) (YZip xs ys)) H1 →
          wpAny (model X.prog X.w) X.A (call (.type "zip") [.ref a, .ref b]) (fun v s1 => wpAny (model X.prog X.w) X.A (pyIter v) (PIE X pins σ (.Tuple elts kk tpos) R) X.xe s1) X.xe s1 := by
        intro kd kf g gf q
        obtain ⟨its, rv, hc, hlt⟩ := kd.cont X pins σ H1 s1 rfl I1 g
        obtain ⟨itf, rvf, hcf, hltf⟩ := kf.cont X pins σ H1 s1 rfl I1 gf
        refine zip_begins2 (kd.begins its) (kf.begins itf) hc hcf fun h1 hz hTI hTO hi1 hi2 hsz hk => wpAny_pyIter_zip hz ?_
        have I2 : Inv X pins σ H1 { s1 with heap := h1 } := I1.kept (t' := s1.toks) hk
        generalize hN : s1.heap.objs.size = N at *
        refine ⟨N + 4, [N + 4, N + 2, N + 3, N, N + 1], fun i h => IsZip h (N + 4) (N + 2) (N + 3) .none ∧ IsTupOf2 h (N + 2) (.ref N) (.ref (N + 1)) ∧ (∃ a1 a2, IsTupOf2 h (N + 3) a1 a2) ∧ kd.S i N h ∧ kf.S i (N + 1) h, _, H1, rfl, I2,
          turn_of (wr := [N + 4, N + 3, N, N + 1]) (by simp) (fun c hcm => ?_) (fun i h st c hcm => ?_) (fun i h h' st k => ?_) (fun A i s Q E st hQ => ?_) (fun Y pins' σ' H' s' hP hw hK hcalm I' g' => ?_),
          ⟨hz, hTI, ⟨_, _, hTO⟩, kd.start _ _ hi1, kf.start _ _ hi2⟩, fun c hcm => ?_, q⟩
        · have e' : c = N + 4 ∨ c = N + 3 ∨ c = N ∨ c = N + 1 := by simpa using hcm
          rcases e' with z | z | z | z <;> rw [z] <;> simp
        · obtain ⟨z1, z2, ⟨a1, a2, z3⟩, z4, z5⟩ := st
          have e' : c = N + 4 ∨ c = N + 2 ∨ c = N + 3 ∨ c = N ∨ c = N + 1 := by simpa using hcm
          rcases e' with z | z | z | z | z
          · rw [z]; exact ⟨_, z1, fun v q => nomatch q⟩
          · rw [z]; exact ⟨_, z2, fun v q => nomatch q⟩
          · rw [z]; exact ⟨_, z3, fun v q => nomatch q⟩
          · rw [z]; exact kd.live i _ h z4
          · rw [z]; exact kf.live i _ h z5
        · obtain ⟨z1, z2, ⟨a1, a2, z3⟩, z4, z5⟩ := st
          exact ⟨k _ (by simp) _ z1, k _ (by simp) _ z2, ⟨a1, a2, k _ (by simp) _ z3⟩, kd.keep i _ h h' z4 fun u hu => k _ (by simp) u hu, kf.keep i _ h h' z5 fun u hu => k _ (by simp) u hu⟩
        · exact wpAny_pyIter_zip st.1 hQ
        · obtain ⟨ga, gb⟩ := g'
          obtain ⟨its', rv', hc', hlt'⟩ := kd.cont Y pins' σ' H' s' hK I' ga
          obtain ⟨itf', rvf', hcf', hltf'⟩ := kf.cont Y pins' σ' H' s' hK I' gb
          have D := kd.draws Y.prog Y.w Y.A.in1 N its' (I'.ok.hd hcalm) (Nat.ne_of_lt hlt)
          have Df := kf.draws Y.prog Y.w Y.A.in1 (N + 1) itf' (I'.ok.hd hcalm) (Nat.ne_of_lt (Nat.lt_succ_of_lt hltf))
          have W := WalksT.zipD2 (A := Y.A) (zip_sep2 (N := N) (fp1 := [a]) (fp2 := [b]) (fun c hcm => by rw [List.mem_singleton.mp hcm]; exact hlt) (fun c hcm => by rw [List.mem_singleton.mp hcm]; exact hltf)) D Df
          rw [hP, hw] at W
          have e : (fun (i : Nat) (h : Heap) => IsZip h (N + 4) (N + 2) (N + 3) .none ∧ IsTupOf2 h (N + 2) (.ref N) (.ref (N + 1)) ∧ (∃ a1 a2, IsTupOf2 h (N + 3) a1 a2) ∧ (kd.S i N h ∧ kd.C its' h) ∧ (kf.S i (N + 1) h ∧ kf.C itf' h)) =
              fun i h => (IsZip h (N + 4) (N + 2) (N + 3) .none ∧ IsTupOf2 h (N + 2) (.ref N) (.ref (N + 1)) ∧ (∃ a1 a2, IsTupOf2 h (N + 3) a1 a2) ∧ kd.S i N h ∧ kf.S i (N + 1) h) ∧ kd.C its' h ∧ kf.C itf' h := by
            funext i h
            apply propext
            constructor
            · rintro ⟨z1, z2, z3, ⟨z4, z5⟩, z6, z7⟩
              exact ⟨⟨z1, z2, z3, z4, z6⟩, z5, z7⟩
            · rintro ⟨⟨z1, z2, z3, z4, z6⟩, z5, z7⟩
              exact ⟨z1, z2, z3, ⟨z4, z5⟩, z6, z7⟩
          rw [e, ← rv'.length, ← rvf'.length] at W
          refine ⟨_, _, _, fun h => kd.C its' h ∧ kf.C itf' h, W, ⟨hc', hcf'⟩, ?_⟩
          · rintro i vals ⟨x, y, hx, hy, rfl⟩
            have hx' : its'[i]? = some x := hx
            have hy' : itf'[i]? = some y := hy
            have hl : i < xs.length := by rw [rv'.length]; exact (List.getElem?_eq_some_iff.mp hx').1
            have hl2 : i < ys.length := by rw [rvf'.length]; exact (List.getElem?_eq_some_iff.mp hy').1
            obtain ⟨u, hu, ru⟩ := rv'.get (List.getElem?_eq_getElem hl)
            obtain ⟨u2, hu2, ru2⟩ := rvf'.get (List.getElem?_eq_getElem hl2)
            rw [hx'] at hu
            rw [hy'] at hu2
            cases hu
            cases hu2
            exact ⟨[xs[i], ys[i]], .cons ru (.cons ru2 .nil), ⟨_, _, List.getElem?_eq_getElem hl, List.getElem?_eq_getElem hl2, rfl⟩, by show 2 ≤ sizeLine; decide⟩
        · have e' : c = N + 4 ∨ c = N + 2 ∨ c = N + 3 ∨ c = N ∨ c = N + 1 := by simpa using hcm
          have hle : s1.heap.objs.size ≤ c := by
            rw [hN]
            rcases e' with z | z | z | z | z <;> rw [z] <;> first | exact Nat.le_add_right _ _ | exact Nat.le_refl _
          exact I1.fpOk hle (I1.hok.fresh hle)
      rcases hq with ⟨g, gf, q⟩ | ⟨g, gf, q⟩ | ⟨g, gf, q⟩ | ⟨g, gf, q⟩
      · exact go (kdL X.K a xs) (kdL X.K b ys) g gf q
      · exact go (kdL X.K a xs) (kdT X.K b ys) g gf q
      · exact go (kdT X.K a xs) (kdL X.K b ys) g gf q
      · exact go (kdT X.K a xs) (kdT X.K b ys) g gf q
end L3

/-! repr of data; defs called where no repr is under way. -/
namespace L3
open PySem PySem.Spec PyProof.Rows L2
section
variable {prog : Program} {w : World} {A : Around} {E : Value → Shared → Prop} {s : Shared}
/-- repr(v), v told by what it reads as -/
theorem repr_reads : ∀ {v : Value} {d : PyData} {as : List Addr} {Q : Value → Shared → Prop}, Reads s.heap v d as → d.hasDict = false → d.showable = true → A.guards = some [] → A.units + 1 + d.depth < cLine → d.shown.length ≤ sizeLine →
    (∀ h' tk u, (∀ b o, s.heap.get? b = some o → h'.get? b = some o) → Q (.str d.shown u) { s with heap := h', toks := tk }) → wpAny (model prog w) A (call (.builtin "repr") [v]) Q E s
  | _, _, _, Q, .none, _, _, _, _, _, hQ => PySem.P.repr_of_none (by simpa only [PyData.shown] using hQ s.heap _ _ fun _ _ e => e)
  | _, _, _, Q, .bool b, _, _, _, _, _, hQ => PySem.P.repr_of_bool (by simpa only [PyData.shown] using hQ s.heap _ _ fun _ _ e => e)
  | _, _, _, Q, .int i t, _, hs, _, _, _, hQ => PySem.P.repr_of_int (by simpa [PyData.showable] using hs) (by simpa only [PyData.shown] using hQ s.heap _ _ fun _ _ e => e)
  | _, _, _, Q, .str x t, _, _, _, _, hz, hQ => PySem.P.repr_of_str (by simpa only [PyData.shown] using hQ s.heap _ _ fun _ _ e => e) (by simpa only [PyData.shown] using hz)
  | _, _, _, Q, .list (a := a) (vs := vs) (xs := xs) h1 h2 h3 h4, hd, hs, hg, hu, hz, hQ => by
    have hz2 : (listText (PyData.shownAll xs)).length ≤ sizeLine := by simpa only [PyData.shown] using hz
    have hd2 : PyData.hasDictAll xs = false := by simpa only [PyData.hasDict] using hd
    obtain ⟨bs, hb, hk⟩ := ReprAllK.of_readsAll (prog := prog) (w := w) h4 (by simpa [PyData.showable] using hs) (fun hx => by rw [hd2] at hx; cases hx) (fun t ht => Nat.le_trans (listText_mem_le ht) hz2)
    have r : Reads s.heap (.ref a) (.list xs) _ := .list h1 h2 h3 h4
    have hna : a ∉ bs := not_mem_of_deeper r (by simp only [PyData.depth]; omega) hb
    simp only [PyData.depth] at hu
    simp only [PyData.shown] at hQ
    have hTy : s.TypeIs (.ref a) "list" := ⟨_, h1, h2⟩
    refine PySem.call_repr_slot (by omega) hTy F.slot_list_repr.toG ?_
    obtain ⟨l⟩ := vs
    cases l with
    | nil =>
      have h5 : ReadsAll s.heap [] xs _ := h4
      cases h5
      simp only [PyData.shownAll, listText_nil] at hQ
      exact call_list_repr_empty hTy h1 h3 ⟨_, _, rfl, hQ s.heap _ _ fun _ _ e => e⟩
    | cons x l =>
      exact call_list_reprK h1 h2 h3 hna (by simpa using hk.length_eq) (fun i y e => hk.item i y (by simpa using e)) hg (fun b _ => Clear.nil b) (by show A.units + 1 + _ < _; omega) (fun _ _ e => e) (fun h' u tk hk2 => ⟨_, _, rfl, hQ h' tk u hk2⟩) hz2
  | _, _, _, Q, .tuple (a := a) (xs := xs) h1 h2 h3 h4, hd, hs, hg, hu, hz, hQ => by
    have hz2 : (tupleText (PyData.shownAll xs)).length ≤ sizeLine := by simpa only [PyData.shown] using hz
    have hd2 : PyData.hasDictAll xs = false := by simpa only [PyData.hasDict] using hd
    obtain ⟨bs, hb, hk⟩ := ReprAllK.of_readsAll (prog := prog) (w := w) h4 (by simpa [PyData.showable] using hs) (fun hx => by rw [hd2] at hx; cases hx) (fun t ht => Nat.le_trans (tupleText_mem_le ht) hz2)
    have r : Reads s.heap (.ref a) (.tuple xs) _ := .tuple h1 h2 h3 h4
    have hna : a ∉ bs := not_mem_of_deeper r (by simp only [PyData.depth]; omega) hb
    simp only [PyData.depth] at hu
    simp only [PyData.shown] at hQ
    have hTy : s.TypeIs (.ref a) "tuple" := ⟨_, h1, h2⟩
    refine PySem.call_repr_slot (by omega) hTy F.slot_tuple_repr ?_
    exact call_tuple_reprK h1 h2 h3 hna hk hg (fun b _ => Clear.nil b) (by show A.units + 1 + _ < _; omega) (fun _ _ e => e) (fun h' u tk hk2 => ⟨_, _, rfl, hQ h' tk u hk2⟩) hz2
  | _, _, _, _, .dict _ _ _ _ _, hd, _, _, _, _, _ => by simp only [PyData.hasDict] at hd; cases hd
end
mutual
theorem dp_nodict {K : PySem.W.Frag} {H : Hp} : ∀ {v : V} {d : PyData}, Dp K H v d → d.hasDict = false
  | _, _, .non => by simp only [PyData.hasDict]
  | _, _, .bl _ => by simp only [PyData.hasDict]
  | _, _, .int _ => by simp only [PyData.hasDict]
  | _, _, .str _ => by simp only [PyData.hasDict]
  | _, _, .lst _ ha => by simp only [PyData.hasDict]; exact dps_nodict ha
  | _, _, .tup _ ha => by simp only [PyData.hasDict]; exact dps_nodict ha
theorem dps_nodict {K : PySem.W.Frag} {H : Hp} : ∀ {vs : List V} {ds : List PyData}, DpAll K H vs ds → PyData.hasDictAll ds = false
  | _, _, .nil => by simp only [PyData.hasDictAll]
  | _, _, .cons h hs => by simp only [PyData.hasDictAll, dp_nodict h, dps_nodict hs, Bool.or_false]
end
def rRepr (K : PySem.W.Frag) : List V → Hp → VK → Prop := fun xs H Q => ∃ x d, xs = [x] ∧ Dp K H x d ∧ d.showable = true ∧ d.depth ≤ 60 ∧ d.shown.length ≤ sizeLine ∧ Q (.str d.shown) H
theorem call_reprD {X : Cx} (hg : X.A.guards = some []) (hu : X.A.units + 64 < cLine) : CallR X (.builtin "repr") (rRepr X.K) := by
  intro pins s σ H xs us Q I r h
  obtain ⟨x, d, rfl, hd, hs, hdp, hz, q⟩ := h
  obtain ⟨u, rfl, ru⟩ := vals1 r
  obtain ⟨as, hr⟩ := Dp.reads I d x u hd ru
  exact repr_reads hr (dp_nodict hd) hs hg (by omega) hz fun h' tk t hk => ⟨.str _, H, I.kept hk, ⟨_, rfl⟩, q⟩
end L3
namespace L3
open PySem PySem.Spec PyProof.Rows L2
/-- as L2.FnOk, called where no repr is under way -/
structure FnG (P : Program) (w : World) (K : PySem.W.Frag) (mg : Str → Option Value) (base : Heap) (CX : CXT) (k : Nat) (f : Addr) (fd : FuncData) (ps : List Str) (sp : Sp) : Prop where
  len : ∀ vs H Q E, sp vs H Q E → vs.length = ps.length
  run : ∀ (A : Around) (outer : List Env) (s : Shared) (H : Hp) (args : Args) (us : List Value) (vs : List V) (Q : VK) (E : XK), A.guards = some [] → Room k A → Env0 P w K mg base A outer s H → BindsTo s fd args (ps.zip us) → Vals vs us → sp vs H Q E →
    codeAny (model P w) A (.call (.ref f) args) (CR CX outer P w H s Q E) s
section
variable {P : Program} {w : World} {K : PySem.W.Frag} {mg : Str → Option Value} {base : Heap} {CX : CXT}
theorem FnG.mono {j k : Nat} {f : Addr} {fd : FuncData} {ps : List Str} {sp : Sp} (F : FnG P w K mg base CX j f fd ps sp) (h : j ≤ k) : FnG P w K mg base CX k f fd ps sp :=
  ⟨F.len, fun A outer s H args us vs Q E hg hr e0 hb r q => F.run A outer s H args us vs Q E hg (hr.mono h) e0 hb r q⟩
theorem FnG.imp {k : Nat} {f : Addr} {fd : FuncData} {ps : List Str} {sp sp2 : Sp} (F : FnG P w K mg base CX k f fd ps sp) (h : ∀ vs H Q E, sp2 vs H Q E → sp vs H Q E) : FnG P w K mg base CX k f fd ps sp2 :=
  ⟨fun vs H Q E q => F.len vs H Q E (h _ _ _ _ q), fun A outer s H args us vs Q E hg hr e0 hb r q => F.run A outer s H args us vs Q E hg hr e0 hb r (h _ _ _ _ q)⟩
theorem fnG_of_ok {k : Nat} {f : Addr} {fd : FuncData} {ps : List Str} {sp : Sp} (F : FnOk P w K mg base CX k f fd ps sp) : FnG P w K mg base CX k f fd ps sp :=
  ⟨F.len, fun A outer s H args us vs Q E _ hr e0 hb r q => F.run A outer s H args us vs Q E hr e0 hb r q⟩
/-- a def by its body -/
theorem fnG_of {k : Nat} {f : Addr} {name qual : Str} {params : Arguments} {body : List Stmt} {scope : Scope} {dV kV doc pm cdv ct oc : Value} {an od : Option Addr}
    {osl : Array (Option Value)} {N ps : List Str} {sp : Sp} (look : K.lookup f = some ⟨oc, od, .func (PySem.W.fnOf name qual params body scope dV kV doc pm an cdv ct), osl⟩) (hcode : PySem.W.codeIn K cdv qual = true) (sc : FnScope N ps scope)
    (hlen : ∀ vs H Q E, sp vs H Q E → vs.length = ps.length)
    (hbody : ∀ (A : Around) (outer : List Env) (s : Shared) (H : Hp) (vs : List V) (Q : VK) (E : XK), A.guards = some [] → Room k (A.deeper (envOfC qual scope s.heap.objs.size f cdv)) → sp vs H Q E →
      ∃ t, PSs (cxOf CX P w K mg base N qual scope f cdv A outer s H E) body t ∧ t { nx := fun _ H1 => Q .non H1, rt := Q } (start N vs) H) :
    FnG P w K mg base CX (k + 1) f (PySem.W.fnOf name qual params body scope dV kV doc pm an cdv ct) ps sp := by
  refine ⟨hlen, fun A outer s H args us vs Q E hg hr e0 hb r hsp => ?_⟩
  have inK : K.In s.heap := e0.mod.kin.keeps fun b u q => (e0.bs b u q).1
  have noL : s.heap.NoLimit := e0.mod.nolimit.keeps fun b u q => (e0.bs b u q).1
  have kinds : ∀ y ∈ ps.zip us, scope.names.lookup y.1 = some .local ∨ (scope.names.lookup y.1 = some .cell ∧ ((cellsFrom (s.heap.objs.size + 1) scope.names []).lookup y.1).isSome = true) := by
    rintro ⟨n, v⟩ hy
    cases sc.par n (List.of_mem_zip hy).1 with
    | inl z => exact .inl z
    | inr z => exact .inr ⟨z, PySem.W.cellsFrom_some _ _ _ (.inl z)⟩
  refine codeAny_call_function hr.depth (inK _ _ look) rfl sc.co sc.gen rfl (PySem.W.codeRec_of inK hcode) (hb _ _ _ _ (wpAny_newFunctionEnv_cells sc.kind kinds fun env henv s1 inc => ?_))
  subst henv
  obtain ⟨t, ht, hq⟩ := hbody A outer s H vs Q E hg (hr.deeper _) hsp
  have I := inv_start (CX := CX) (E := E) sc hr.hd e0 (hlen _ _ _ _ hsp) r inc
  have out : ∀ {τ : St} {H1 : Hp} {v : V} {u : Value} {s2 : Shared}, Inv (cxOf CX P w K mg base N qual scope f cdv A outer s H E) [] τ H1 s2 → RelV v u → Q v H1 → CE outer P w H s Q u s2 :=
    fun {τ H1 v u s2} J rv q => ⟨v, H1, J.os, J.bare, J.base, J.hok, rv, q⟩
  refine ⟨noL.keeps inc.toInCall.keep, codeAny_func (wpAny_mono (ht.run [] s1 (start N vs) H _ I hq) (fun fl s2 hs => ?_) fun _ _ z => z)⟩
  match fl, hs with
  | .ret u, ⟨v, τ, H1, J, rv, q⟩ => exact out J rv q
  | .next, ⟨τ, H1, J, q⟩ => exact out (v := V.non) (u := Value.none) J rfl q
  | .brk, ⟨_, _, _, q⟩ => exact q.elim
  | .cont, ⟨_, _, _, q⟩ => exact q.elim
theorem okG {x qual : Str} {st : Stmt} {f : Addr} {fd : FuncData} {N ps : List Str} {k : Nat} {sp : Sp} (F : Fun K x qual st f fd) (S : FnScope N ps (defScope st)) (hlen : ∀ vs H Q E, sp vs H Q E → vs.length = ps.length)
    (hbody : ∀ (cdv : Value) (A : Around) (outer : List Env) (s : Shared) (H : Hp) (vs : List V) (Q : VK) (E : XK), (A.deeper (envOfC qual (defScope st) s.heap.objs.size f cdv)).guards = some [] → Room k (A.deeper (envOfC qual (defScope st) s.heap.objs.size f cdv)) → sp vs H Q E →
      ∃ t, PSs (cxOf CX0 P w K mg base N qual (defScope st) f cdv A outer s H E).nox (defBody st) t ∧ t { nx := fun _ H1 => Q .non H1, rt := Q } (start N vs) H) : FnG P w K mg base CX0 (k + 1) f fd ps sp := by
  obtain ⟨oc, od, kV, doc, pm, an, cdv, ct, osl, rfl, lk, hcd⟩ := F.ex
  refine fnG_of lk hcd S hlen fun A outer s H vs Q E hg hr hsp => ?_
  obtain ⟨t, h, q⟩ := hbody cdv A outer s H vs Q E hg hr hsp
  exact ⟨t, h.nox, q⟩
end
section
variable {X : Cx} {CX : CXT} {j k n : Nat} {f C : Addr} {fd : FuncData} {ps ks : List Str} {sp : Sp} {E : XK} {x : Str} {p pos : Pos} {e : Expr} {es : List Expr} {t tk : TA} {kws : List Keyword}
theorem run_g {pins : List (Addr × Obj)} {σ : St} {H : Hp} {s : Shared} {Q : VK} {us us2 : List Value} {kw : List (Str × Value)} {vs : List V} (F : FnG X.prog X.w X.K X.mg X.base CX k f fd ps sp) (hg : X.A.guards = some []) (hr : Room k X.A) (hb : BindsTo s fd ⟨us, kw⟩ (ps.zip us2)) (hx : Passes CX X E)
    (I : Inv X pins σ H s) (r : Vals vs us2) (h : sp vs H Q E) : wpAny (model X.prog X.w) X.A (call (.ref f) us kw) (EP X pins σ Q) X.xe s := by
  refine wpAny_call (codeAny_mono (F.run X.A X.stack s H ⟨us, kw⟩ us2 vs Q E hg hr I.env0 hb r h) fun r2 s2 hq => ?_)
  match r2, hq with
  | .error e, hq => exact hx pins σ H s e s2 I hq
  | .ok (.ret u), hq => exact I.after hq
  | .ok .next, hq => exact hq.elim
  | .ok .brk, hq => exact hq.elim
  | .ok .cont, hq => exact hq.elim
/-- the module's name x is a def that keeps the promise sp -/
structure Cg (P : Program) (w : World) (K : PySem.W.Frag) (mg : Str → Option Value) (base : Heap) (CX : CXT) (k : Nat) (x : Str) (sp : Sp) : Prop where
  ex : ∃ (f : Addr) (fd : FuncData) (ps : List Str), FnG P w K mg base CX k f fd ps sp ∧ mg x = some (.ref f) ∧ PySem.W.keepIn K (.ref f) = true ∧ Binds K fd ps []
/-- the same called by keywords ks alone, in this order -/
structure Cgk (P : Program) (w : World) (K : PySem.W.Frag) (mg : Str → Option Value) (base : Heap) (CX : CXT) (k : Nat) (x : Str) (ks : List Str) (sp : Sp) : Prop where
  ex : ∃ (f : Addr) (fd : FuncData) (ps : List Str) (g : List Value → List Value) (gV : List V → List V) (sp0 : Sp), FnG P w K mg base CX k f fd ps sp0 ∧ mg x = some (.ref f) ∧ PySem.W.keepIn K (.ref f) = true ∧
    (∀ (s : Shared) (ws : List Value), K.In s.heap → ws.length = ks.length → BindsTo s fd ⟨[], ks.zip ws⟩ (ps.zip (g ws))) ∧ (∀ (zs : List V) (ws : List Value), zs.length = ks.length → Vals zs ws → Vals (gV zs) (g ws)) ∧
    ∀ zs H Q E, sp zs H Q E → zs.length = ks.length ∧ sp0 (gV zs) H Q E
theorem pe_cg (c : Cg X.prog X.w X.K X.mg X.base CX k x sp) (hgd : X.A.guards = some []) (hr : Room j X.A) (hk : k ≤ j) (hg : Gl X x) (hx : Passes CX X E) (ha : PA X (e :: es) t)
    (hdb : (x == ("__debug__" : Str)) = false := by decide) (he : starEach (e :: es) X.env = (false, eval e X.env) :: starEach es X.env := by rfl) (hpl : (backTo pos (starEach es X.env)).any (·.1) = false := by rfl) :
    PE X (.Call (.Name x p) (e :: es) [] pos) (tCall sp [] E t) := by
  obtain ⟨f, fd, ps, F, hm, kp, b⟩ := c.ex
  refine ⟨fun pins s σ H Q I h => ?_⟩
  refine Call_ (ld_glob I hg hm ?_ hdb)
  refine PySem.W.callWith_K (h₀ := X.base) I.ok.mod.kin kp ?_ he hpl
  refine thn (ha.run pos pins s σ H _ I h) fun us s1 ⟨vs, H1, I1, r, q⟩ => ⟨I1.kIn, ?_⟩
  have q2 : sp (vs ++ []) H1 Q E := q
  rw [List.append_nil] at q2
  have hb := b s1 us I1.kIn (by rw [List.append_nil, ← r.length]; exact F.len _ _ _ _ q2)
  rw [List.append_nil] at hb
  exact run_g F hgd (hr.mono hk) hb hx I1 r q2
theorem pe_cgk (c : Cgk X.prog X.w X.K X.mg X.base CX k x ks sp) (hgd : X.A.guards = some []) (hr : Room j X.A) (hk : k ≤ j) (hg : Gl X x) (hx : Passes CX X E) (hkw : PK X kws tk)
    (hall : (backToKw pos (keywordEach kws X.env)).all (·.1.isSome) = true := by rfl) (hks : (backToKw pos (keywordEach kws X.env)).filterMap (·.1) = ks := by rfl) (hdb : (x == ("__debug__" : Str)) = false := by decide)
    (hpl : ((backTo pos (starEach [] X.env)).any (·.1) || (backToKw pos (keywordEach kws X.env)).any (·.1.isNone)) = false := by rfl) :
    PE X (.Call (.Name x p) [] kws pos) (tCall sp [] E tk) := by
  obtain ⟨f, fd, ps, g, gV, sp0, F, hm, kp, to, rel, imp⟩ := c.ex
  refine ⟨fun pins s σ H Q I h => ?_⟩
  refine wpAny_Call_Name_kw (ld_glob I hg hm ?_ hdb)
  refine PySem.W.callWith_KW0 (h₀ := X.base) I.ok.mod.kin kp hall ?_ hpl
  refine thn (hkw.run pos pins s σ H _ I h) fun ws s1 ⟨zs, H1, I1, rz, q⟩ => ⟨I1.kIn, ?_⟩
  rw [hks]
  have q1 : sp (zs ++ []) H1 Q E := q
  rw [List.append_nil] at q1
  obtain ⟨hz, q2⟩ := imp _ _ _ _ q1
  exact run_g F hgd (hr.mono hk) (to s1 ws I1.kIn (by rw [← rz.length]; exact hz)) hx I1 (rel zs ws hz rz) q2
end
end L3

/-! the end of a law whose def is called where no repr is under way. -/
namespace L3
open PySem PySem.Spec PyProof.Rows L2
/-- the script's place in the abstract heap: nothing, or the locked list -/
def scriptH (a : Addr) (o : Obj) (ns : List Int) : Hp := fun b => if b = a then some (.frz o (.lst (ns.map V.int))) else none
theorem law_callG {P : Program} {w : World} {K : PySem.W.Frag} {mg mb : Str → Option Value} {k : Nat} {fa a : Addr} {fd : FuncData} {x : Str} {sp : Sp} {s1 : Shared} {vs : List Value} {ns : List Int}
    (inK : K.In s1.heap) (nsM : s1.heap.Ns mainGlobals mg) (nsB : s1.heap.Ns builtinsNs mb) (hmb : ∀ x : Str, x ≠ "__name__" → mb x = bootBuiltins x) (noL : s1.heap.NoLimit) (hgens : s1.gens = #[])
    (ha : s1.heap.get? a = some { cls := .type "list", data := .seq vs.toArray }) (hints : IntsAre vs ns) (hl : ns.length ≤ sizeLine) (room : Room k callerA)
    (F : ∀ base : Heap, K.In base → base.Ns mainGlobals mg → FnG P w K mg base CX0 k fa fd [x] sp) (hb : ∀ (s : Shared) (u : Value), BindsTo s fd ⟨[u], []⟩ [(x, u)])
    (hsp : ∀ H : Hp, SqL K H a (ns.map V.int) → (∀ b, H b ≠ none → b = a) → sp [.ref a] H (fun v _ => v = .bl true) fun _ _ _ => False) :
    codeAny (model P w) callerA (.call (.ref fa) ⟨[.ref a], []⟩) (fun r s2 => r = .ok (.ret (.bool true)) ∧ OldK s1.heap s2.heap ∧ s2.os = s1.os ∧ AllBare s2.gens) s1 := by
  have rel := vals_ints hints
  have len := hints.length
  suffices core : ∀ H : Hp, (∀ b, H b = none ∨ ∃ ob xs, H b = some (.frz ob (.lst xs))) → SqL K H a (ns.map V.int) → HOk P w H s1.heap → (∀ b, H b ≠ none → b = a) → (H a ≠ none → K.lookup a = none) →
      codeAny (model P w) callerA (.call (.ref fa) ⟨[.ref a], []⟩) (fun r s2 => r = .ok (.ret (.bool true)) ∧ OldK s1.heap s2.heap ∧ s2.os = s1.os ∧ AllBare s2.gens) s1 by
    by_cases hk : ∃ o, K.lookup a = some o
    · obtain ⟨o, hk⟩ := hk
      have same := inK a o hk
      rw [ha] at same
      cases same
      have tracked : SqL K (fun _ => none) a (ns.map V.int) := .inr ⟨_, vs.toArray, _, hk, rfl, rfl, rfl, by rw [List.size_toArray, len]; exact hl, by simpa using rel⟩
      exact core (fun _ => none) (fun _ => .inl rfl) tracked (fun b u z => by cases (show (none : Option HO) = some u from z)) (fun b z => (z rfl).elim) fun z => (z rfl).elim
    · have hk0 : K.lookup a = none := by
        cases h : K.lookup a with
        | none => rfl
        | some o => exact (hk ⟨o, h⟩).elim
      have at_a : scriptH a { cls := .type "list", data := .seq vs.toArray } ns a = some (.frz { cls := .type "list", data := .seq vs.toArray } (.lst (ns.map V.int))) := if_pos rfl
      have off : ∀ b, b ≠ a → scriptH a { cls := .type "list", data := .seq vs.toArray } ns b = none := fun b hne => if_neg hne
      refine core (scriptH a { cls := .type "list", data := .seq vs.toArray } ns) (fun b => ?_) (.inl (.inr ⟨_, at_a⟩)) (fun b u z => ?_) (fun b z => Decidable.byContradiction fun hne => z (off b hne)) fun _ => hk0
      · by_cases hne : b = a
        · exact .inr ⟨_, _, by rw [hne]; exact at_a⟩
        · exact .inl (off b hne)
      · by_cases hne : b = a
        · subst hne
          rw [at_a] at z
          cases z
          exact ⟨ha, by rw [List.length_map]; exact hl, vs, _, rel, ha⟩
        · rw [off b hne] at z
          cases z
  intro H only hS hok onlyA notK
  have lower : ∀ {b : Addr} {o : Obj}, s1.heap.get? b = some o → H b = none → (hidT s1.heap H).get? b = some o := fun q n => hidT_get q n
  have freeK : ∀ b o, K.lookup b = some o → H b = none := fun b o q => by
    cases h : H b with
    | none => rfl
    | some u =>
      have eb := onlyA b (by rw [h]; exact Option.some_ne_none u)
      subst eb
      rw [notK (by rw [h]; exact Option.some_ne_none u)] at q
      cases q
  have freeD : ∀ {b : Addr} {o : Obj} {es : Array DictEntry} {ep : Nat}, s1.heap.get? b = some o → o.data = .dict es ep → H b = none := fun {b o es ep} q d => by
    cases h : H b with
    | none => rfl
    | some u =>
      have eb := onlyA b (by rw [h]; exact Option.some_ne_none u)
      subst eb
      rw [ha] at q
      cases q
      cases (show Data.seq vs.toArray _ = Data.dict es ep from d)
  have lowerN : ∀ {b : Addr} {m : Str → Option Value}, s1.heap.Ns b m → (hidT s1.heap H).Ns b m := fun {b m} ⟨o, es, ep, q, d, r⟩ => ⟨o, es, ep, lower q (freeD q d), d, r⟩
  have inB : K.In (hidT s1.heap H) := fun b o q => lower (inK b o q) (freeK b o q)
  have mod : Mod K mg (hidT s1.heap H) := ⟨inB, lowerN nsM, ⟨mb, lowerN nsB, hmb⟩, let ⟨mc, q1, q2⟩ := noL; ⟨mc, lowerN q1, q2⟩⟩
  have start0 : Env0 P w K mg (hidT s1.heap H) callerA [] s1 H := ⟨rfl, mod, fun b o q => of_hidT q, Nat.le_of_eq (hidT_size _ _), trivial, fun b z => absurd (show b ∈ ([] : List Addr) from z) List.not_mem_nil, hok, .of_eq hgens⟩
  refine codeAny_mono ((F _ inB (lowerN nsM)).run callerA [] s1 H ⟨[.ref a], []⟩ [.ref a] [.ref a] _ _ rfl room start0 (hb s1 (.ref a)) (.cons rfl .nil) (hsp H hS onlyA)) fun r s2 hr => ?_
  match r, hr with
  | .error e, hr => exact hr.elim
  | .ok .next, hr => exact hr.elim
  | .ok .brk, hr => exact hr.elim
  | .ok .cont, hr => exact hr.elim
  | .ok (.ret u), hr =>
    obtain ⟨v, H2, os, bare, un, hok2, rv, q⟩ := hr
    have ev : v = .bl true := q
    subst ev
    cases (show u = Value.bool true from rv)
    refine ⟨rfl, OldK.of_keep fun b o q => ?_, os, bare⟩
    rcases only b with n | ⟨ob, xs, z⟩
    · exact un.keep b o q n (fun z => absurd (show b ∈ ([] : List Addr) from z) List.not_mem_nil) (fun z => absurd z List.not_mem_nil)
    · obtain ⟨q1, _⟩ := hok b _ z
      obtain ⟨q2, _⟩ := hok2 b _ (un.frzs b ob _ z)
      rw [q] at q1
      cases q1
      exact q2
/-- the end of a law row, from the promise of its def -/
theorem walk_ofG {l : PySem.W.OpenLaw} {n k : Nat} {q : Program} {loose : List Str} {XP : (Str → Option Value) → Heap → Prop} {YP : World → Heap → Prop} {d : DefRec} {K : Params → PySem.W.Frag} {sp : PySem.W.Frag → Sp} {x : Str}
    (hn : l.most = some n) (hn2 : n ≤ sizeLine) (hdf : d.params.defaults = []) (hr : Room k callerA)
    (hY : ∀ (w : World) (h : Heap), YP w h → (K w.params).In h)
    (F : ∀ (w : World) (mg : Str → Option Value) (fa : Addr) (h : Heap), (K w.params).In h → h.Ns mainGlobals mg → mg d.name = some (.ref fa) →
      ∃ fd : FuncData, (∀ (s : Shared) (u : Value), BindsTo s fd ⟨[u], []⟩ [(x, u)]) ∧ ∀ base : Heap, (K w.params).In base → base.Ns mainGlobals mg → FnG l.prog w (K w.params) mg base CX0 k fa fd [x] (sp (K w.params)))
    (hsp : ∀ (K : PySem.W.Frag) (H : Hp) (a : Addr) (ns : List Int), ns.length ≤ n → SqL K H a (ns.map V.int) → (∀ b, H b ≠ none → b = a) → sp K [.ref a] H (fun v _ => v = .bl true) fun _ _ _ => False) :
    PySem.W.WalkO q loose XP YP l.row.toRowW d [] (fun f vs => PySem.call f vs) := by
  refine Att.attach_call hn hdf fun w s0 s1 mg mb fa o pm cd doc a vs ns G Y ho hd hcd hmg hobj hints hlen hg => ?_
  obtain ⟨fd, hb, hF⟩ := F w mg fa _ (hY w _ Y) G.T.g hmg
  exact law_callG (hY w _ Y) G.T.g G.T.b G.T.builtins G.T.nolimit hg hobj hints (Nat.le_trans hlen hn2) hr hF hb fun H hS hA => hsp _ H a ns hlen hS hA
end L3

/-! rules that serve several kinds of values at once. -/
namespace L3
open PySem PySem.Spec PyProof.Rows L2
section
variable {X : Cx}
/-- + of ints, tuples, lists, texts -/
def rAddA (K : PySem.W.Frag) : R2 := fun x y H Q => rI0 (fun i j => .int (i + j)) x y H Q ∨ rCatA K x y H Q ∨ rCat x y H Q ∨ (∃ i j, x = .str i ∧ y = .str j ∧ i.length + j.length ≤ sizeLine ∧ Q (.str (i ++ j)) H)
theorem oAdd : OpR X (binaryOp .Add) (rAddA X.K) := op_add.or (op_catA.or (op_cat.or op_add_str))
def rMulA (K : PySem.W.Frag) : R2 := fun x y H Q => rI CMul (fun i j => .int (i * j)) x y H Q ∨ rRepT K x y H Q
theorem oMul : OpR X (binaryOp .Mult) (rMulA X.K) := op_mul.or op_repT
theorem oSub : OpR X (binaryOp .Sub) (rI0 fun i j => .int (i - j)) := op_sub
theorem oFdiv : OpR X (binaryOp .FloorDiv) (rI CDiv fun i j => .int (i / j)) := op_fdiv
theorem oMod : OpR X (binaryOp .Mod) (rI (fun _ j => 0 < j) fun i j => .int (i % j)) := op_mod
theorem oPow : OpR X (binaryOp .Pow) (rI CPow fun i j => .int (i ^ j.toNat)) := op_pow
def rEqA (K : PySem.W.Frag) : R2 := fun x y H Q => rEq x y H Q ∨ rEqD K x y H Q
def rNeA (K : PySem.W.Frag) : R2 := fun x y H Q => rNe x y H Q ∨ rNeD K x y H Q
theorem oEq {k : Nat} (hr : Room k X.A) : OpR X (compareOp .Eq) (rEqA X.K) := op_eq.or (op_eqD hr.units)
theorem oNe {k : Nat} (hr : Room k X.A) : OpR X (compareOp .NotEq) (rNeA X.K) := op_ne.or (op_neD hr.units)
theorem oLt : OpR X (compareOp .Lt) (rI0 fun i j => .bl (decide (i < j))) := op_lt
theorem oLe : OpR X (compareOp .LtE) (rI0 fun i j => .bl (decide (i ≤ j))) := op_le
theorem oGt : OpR X (compareOp .Gt) (rI0 fun i j => .bl (decide (j < i))) := op_gt
theorem oGe : OpR X (compareOp .GtE) (rI0 fun i j => .bl (decide (j ≤ i))) := op_ge
def rIsNone : R2 := fun x y H Q => y = .non ∧ Q (.bl (decide (x = .non))) H
def rIsNotNone : R2 := fun x y H Q => y = .non ∧ Q (.bl (!decide (x = .non))) H
theorem oIs : OpR X (compareOp .Is) rIsNone := op_isN
theorem oIsNot : OpR X (compareOp .IsNot) rIsNotNone := op_notN
def rInA (K : PySem.W.Frag) : R2 := fun x y H Q => rIn K false x y H Q ∨ rInD K x y H Q
def rNotInA (K : PySem.W.Frag) : R2 := fun x y H Q => rIn K true x y H Q ∨ rNotInD K x y H Q
theorem oIn {k : Nat} (hr : Room k X.A) : OpR X (compareOp .In) (rInA X.K) := op_in_seq.or (op_inD (by have := hr.un; omega))
theorem oNotIn {k : Nat} (hr : Room k X.A) : OpR X (compareOp .NotIn) (rNotInA X.K) := op_notIn_seq.or (op_notInD (by have := hr.un; omega))
def rNegI : V → Hp → VK → Prop := fun x H Q => ∃ i, x = .int i ∧ Q (.int (-i)) H
theorem oIx : IxR X (rIx X.K) := ix_seq
def rSlS (K : PySem.W.Frag) : V → Option Int → Option Int → Hp → VK → Prop := fun x lo hi H Q => rSlL K x lo hi H Q ∨ rSlA K x lo hi H Q
theorem oSl : SlR X (rSlS X.K) := sl_list.or sl_tupA
/-- what a for walks: a list, a tuple -/
def iSeq (K : PySem.W.Frag) (te : TE) : TI := fun σ H R => te σ H fun x H1 => ∃ a xs, x = .ref a ∧ ((SqL K H1 a xs ∧ R (Itl K a) H1) ∨ (SqT K H1 a xs ∧ R (Itt K a) H1))
theorem pi_seq {tg e : Expr} {te : TE} (he : PE X e te) : PI X tg e (iSeq X.K te) := by
  refine ⟨fun pins s σ H R I h => thn (he.run pins s σ H _ I h) ?_⟩
  rintro v s1 ⟨x, H1, I1, r1, a, xs, rfl, hq⟩
  cases r1
  have fresh1 : ∀ b ∈ [s1.heap.objs.size], FpOk X pins H1 b := fun b hb => by
    rw [List.mem_singleton.mp hb]
    exact I1.fpOk (Nat.le_refl _) (I1.hok.fresh (Nat.le_refl _))
  rcases hq with ⟨hl, q⟩ | ⟨ht, q⟩
  · obtain ⟨its, rv, p, _⟩ := I1.list hl
    exact wpAny_pyIter_list p.isList ⟨s1.heap.objs.size, [s1.heap.objs.size], _, _, H1, rfl, I1.kept (t' := s1.toks) fun b u z => Heap.get?_push_of_some _ z, turn_list a _, ⟨_, Heap.get?_push_size _ rfl, rfl, rfl⟩, fresh1, q⟩
  · obtain ⟨its, rv, p, _⟩ := I1.tuple ht
    exact wpAny_pyIter_tuple (show s1.heap.IsTuple a its.toArray from p) ⟨s1.heap.objs.size, [s1.heap.objs.size], _, _, H1, rfl, I1.kept (t' := s1.toks) fun b u z => Heap.get?_push_of_some _ z, turn_tuple a _, ⟨_, Heap.get?_push_size _ rfl, rfl, rfl⟩, fresh1, q⟩
/-- *e in a display, e a list or a tuple -/
def tStar (K : PySem.W.Frag) (te : TE) (tr : TA) : TA := fun σ H Q => te σ H fun x H1 => ∃ a xs, x = .ref a ∧ (SqT K H1 a xs ∨ SqL K H1 a xs) ∧ tr σ H1 fun ys H2 => Q (xs ++ ys) H2
theorem pa_star {e : Expr} {es : List Expr} {te : TE} {t : TA} {sp : Pos} (ha : PE X e te) (hr : PA X es t) : PA X (.Starred e sp :: es) (tStar X.K te t) := by
  refine ⟨fun pos pins s σ H Q I h => PySem.W.items_star (thn (ha.run pins s σ H _ I h) ?_)⟩
  rintro u s1 ⟨x, H1, I1, r1, a, xs, rfl, hq, q1⟩
  cases r1
  refine StX.star_any I1 hq fun us s2 I2 rv => thn (hr.run pos pins s2 σ H1 _ I2 q1) ?_
  rintro ws s3 ⟨ys, H2, I3, r2, q2⟩
  exact ⟨xs ++ ys, H2, I3, rv.append r2, q2⟩
/-- t.count(k), t a tuple of ints -/
def rCntT (K : PySem.W.Frag) : V → List V → Hp → VK → Prop := fun x xs H Q => ∃ (p : Addr) (ns : List Int) (k : Int), x = .ref p ∧ xs = [.int k] ∧ SqT K H p (ns.map V.int) ∧ Q (.int (ns.count k : Nat)) H
theorem mt_tcount : MtR X "tuple.count" (rCntT X.K) := by
  rintro pins s σ H x xs v us Q I rx rxs ⟨p, ns, k, rfl, rfl, hs, q⟩
  cases rx
  obtain ⟨u, rfl, t, rfl⟩ := rxs.one
  obtain ⟨its, rv, ⟨⟨cls, dd, data, sl⟩, ho, hc, n, hd⟩, _⟩ := I.tuple hs
  cases (show cls = .type "tuple" from hc)
  cases (show data = .seq its.toArray n from hd)
  have hin := ints_of_vals rv
  refine call_meets PySem.F.slot_tuple_count ⟨_, ho, rfl⟩ PySem.F.entry_tuple_count (PySem.F.args_tuple_count_2 _ _) (SeqAt.tuple_countAt p its.toArray n dd sl (.int k t) (eqk k))
    ⟨ho, fun y hy => (eqk_gives hin y (by simpa using hy)).at _ _, .int (ns.count k : Nat), H, I.tok _, ⟨s.toks, ?_⟩, q⟩
  have ec : its.toArray.toList.countP (eqk k) = ns.count k := eqk_count hin
  show Value.int ((its.toArray.toList.countP (eqk k) : Nat) : Int) s.toks = _
  rw [ec]
/-- max, min of two ints or of a list of ints -/
def rMaxA (K : PySem.W.Frag) : List V → Hp → VK → Prop := fun xs H Q => (∃ i j, xs = [.int i, .int j] ∧ Q (.int (if j > i then j else i)) H) ∨ rMax K xs H Q
theorem call_maxA (hc : X.calm = true) : CallR X (.builtin "max") (rMaxA X.K) := (call_max2 hc).or (cr_max hc)
def rMinA (K : PySem.W.Frag) : List V → Hp → VK → Prop := fun xs H Q => (∃ i j, xs = [.int i, .int j] ∧ Q (.int (if j < i then j else i)) H) ∨ rMin K xs H Q
theorem call_minA (hc : X.calm = true) : CallR X (.builtin "min") (rMinA X.K) := (call_min2 hc).or (cr_min hc)
/-- a op= b, by values -/
theorem ipAdd : PIp X .Add (rI0 fun i j => .int (i + j)) := fun pins s σ H x y v u Q I rx ry h => by
  obtain ⟨i, j, rfl, rfl, q⟩ := h
  obtain ⟨t, rfl⟩ := rx
  obtain ⟨t2, rfl⟩ := ry
  exact PyProof.Rows.iadd_int ⟨.int _, H, I.tok _, ⟨_, rfl⟩, q⟩
theorem ipSub : PIp X .Sub (rI0 fun i j => .int (i - j)) := fun pins s σ H x y v u Q I rx ry h => by
  obtain ⟨i, j, rfl, rfl, q⟩ := h
  obtain ⟨t, rfl⟩ := rx
  obtain ⟨t2, rfl⟩ := ry
  exact PyProof.Rows.isub_int ⟨.int _, H, I.tok _, ⟨_, rfl⟩, q⟩
theorem ipMul : PIp X .Mult (rI CMul fun i j => .int (i * j)) := fun pins s σ H x y v u Q I rx ry h => by
  obtain ⟨i, j, rfl, rfl, hc, q⟩ := h
  obtain ⟨t, rfl⟩ := rx
  obtain ⟨t2, rfl⟩ := ry
  exact PyProof.Rows.imul_int ⟨.int _, H, I.tok _, ⟨_, rfl⟩, q⟩ hc.ok
theorem ipFdiv : PIp X .FloorDiv (rI CDiv fun i j => .int (i / j)) := fun pins s σ H x y v u Q I rx ry h => by
  obtain ⟨i, j, rfl, rfl, ⟨h1, h2⟩, q⟩ := h
  obtain ⟨t, rfl⟩ := rx
  obtain ⟨t2, rfl⟩ := ry
  exact PyProof.Rows.ifloordiv_int (by omega) ⟨.int _, H, I.tok _, ⟨_, rfl⟩, by rw [Int.fdiv_eq_ediv_of_nonneg i (by omega)]; exact q⟩ (.inl (PyProof.noPylong_small (by omega)))
theorem ipMod : PIp X .Mod (rI (fun _ j => 0 < j) fun i j => .int (i % j)) := fun pins s σ H x y v u Q I rx ry h => by
  obtain ⟨i, j, rfl, rfl, h1, q⟩ := h
  obtain ⟨t, rfl⟩ := rx
  obtain ⟨t2, rfl⟩ := ry
  exact PyProof.Rows.imod_int (by omega) ⟨.int _, H, I.tok _, ⟨_, rfl⟩, by rw [Int.fmod_eq_emod_of_nonneg i (by omega)]; exact q⟩
/-! ### the same with the written part named (a comprehension's block keeps it) -/
variable {K : PySem.W.Frag}
theorem kAdd (hK : X.K = K := by rfl) : OpR X (binaryOp .Add) (rAddA K) := hK ▸ oAdd
theorem kMul (hK : X.K = K := by rfl) : OpR X (binaryOp .Mult) (rMulA K) := hK ▸ oMul
theorem kEq {k : Nat} (hr : Room k X.A) (hK : X.K = K := by rfl) : OpR X (compareOp .Eq) (rEqA K) := hK ▸ oEq hr
theorem kNe {k : Nat} (hr : Room k X.A) (hK : X.K = K := by rfl) : OpR X (compareOp .NotEq) (rNeA K) := hK ▸ oNe hr
theorem kIn {k : Nat} (hr : Room k X.A) (hK : X.K = K := by rfl) : OpR X (compareOp .In) (rInA K) := hK ▸ oIn hr
theorem kNotIn {k : Nat} (hr : Room k X.A) (hK : X.K = K := by rfl) : OpR X (compareOp .NotIn) (rNotInA K) := hK ▸ oNotIn hr
theorem kIx (hK : X.K = K := by rfl) : IxR X (rIx K) := hK ▸ oIx
theorem kSl (hK : X.K = K := by rfl) : SlR X (rSlS K) := hK ▸ oSl
theorem pi_seqK {tg e : Expr} {te : TE} (he : PE X e te) (hK : X.K = K := by rfl) : PI X tg e (iSeq K te) := hK ▸ pi_seq he
theorem pa_starK {e : Expr} {es : List Expr} {te : TE} {t : TA} {sp : Pos} (ha : PE X e te) (hr : PA X es t) (hK : X.K = K := by rfl) : PA X (.Starred e sp :: es) (tStar K te t) := hK ▸ pa_star ha hr
theorem pg_tupK {es : List Expr} {k : Nat} {t : TGs} {n : Nat} {pos : Pos} (hc : X.calm = true) (h : PGs X es t) (hK : X.K = K := by rfl)
    (hn : (assignEach es X.env).length = n := by rfl) (hst : (assignEach es X.env).findIdx? (·.1) = none := by rfl) : PG X (.Tuple es k pos) (gTup K n t) := hK ▸ pg_tup hc h hn hst
theorem pi_enumK {e : Expr} {ta : TA} {p pos tpos : Pos} {elts : List Expr} {kk : Nat} (hg : Gl X "enumerate") (hm : X.mg "enumerate" = none) (ha : PA X [e] ta) (hK : X.K = K := by rfl) (hs : starEach [e] X.env = [(false, eval e X.env)] := by rfl) :
    PI X (.Tuple elts kk tpos) (.Call (.Name "enumerate" p) [e] [] pos) (iEnumS K ta) := hK ▸ pi_enumS hg hm ha hs
theorem pi_zipK {e e2 : Expr} {ta : TA} {p pos tpos : Pos} {elts : List Expr} {kk : Nat} (hg : Gl X "zip") (hm : X.mg "zip" = none) (ha : PA X [e, e2] ta) (hK : X.K = K := by rfl)
    (hs : starEach [e, e2] X.env = (false, eval e X.env) :: starEach [e2] X.env := by rfl) (hpl : (backTo pos (starEach [e2] X.env)).any (·.1) = false := by rfl) :
    PI X (.Tuple elts kk tpos) (.Call (.Name "zip" p) [e, e2] [] pos) (iZipS K ta) := hK ▸ pi_zipS hg hm ha hs hpl
def rLenA (K : PySem.W.Frag) : List V → Hp → VK → Prop := fun xs H Q => ∃ x n, xs = [x] ∧ LenV K x H n ∧ Q (.int n) H
theorem kLen (hK : X.K = K := by rfl) : CallR X (.builtin "len") (rLenA K) := hK ▸ call_len
theorem kMax (hc : X.calm = true) (hK : X.K = K := by rfl) : CallR X (.builtin "max") (rMaxA K) := hK ▸ call_maxA hc
theorem kMin (hc : X.calm = true) (hK : X.K = K := by rfl) : CallR X (.builtin "min") (rMinA K) := hK ▸ call_minA hc
theorem kSum (hc : X.calm = true) (hK : X.K = K := by rfl) : CallR X (.builtin "sum") (rSum K) := hK ▸ cr_sum hc
theorem kAny (hc : X.calm = true) (hK : X.K = K := by rfl) : CallR X (.builtin "any") (rAny K) := hK ▸ cr_any hc
theorem kAll (hc : X.calm = true) (hK : X.K = K := by rfl) : CallR X (.builtin "all") (rAll K) := hK ▸ cr_all hc
theorem kRepr {k : Nat} (hg : X.A.guards = some []) (hr : Room k X.A) (hK : X.K = K := by rfl) : CallR X (.builtin "repr") (rRepr K) := hK ▸ call_reprD hg hr.units
def rListA (K : PySem.W.Frag) : List V → Hp → VK → Prop := fun xs H Q => ∃ p ys, xs = [.ref p] ∧ (SqL K H p ys ∨ SqT K H p ys) ∧ ∀ l, H l = none → Q (.ref l) (upd H l (.lst ys))
theorem kList (hK : X.K = K := by rfl) : CallR X (.type "list") (rListA K) := hK ▸ call_list_of
def rTupA (K : PySem.W.Frag) : List V → Hp → VK → Prop := fun xs H Q => ∃ p ys, xs = [.ref p] ∧ ((SqL K H p ys ∧ ∀ l, H l = none → Q (.ref l) (upd H l (.tup ys))) ∨ (SqT K H p ys ∧ Q (.ref p) H))
theorem kTuple (hK : X.K = K := by rfl) : CallR X (.type "tuple") (rTupA K) := hK ▸ call_tuple_of
def rDivmod : List V → Hp → VK → Prop := fun xs H Q => ∃ i j, xs = [.int i, .int j] ∧ CDiv i j ∧ ∀ p, H p = none → Q (.ref p) (upd H p (.tup [.int (i / j), .int (i % j)]))
theorem kDivmod : CallR X (.builtin "divmod") rDivmod := call_divmod
def rInt1 : List V → Hp → VK → Prop := fun xs H Q => (∃ i, xs = [.int i] ∧ Q (.int i) H) ∨ ∃ k, xs = [.bl k] ∧ Q (.int (if k then 1 else 0)) H
theorem kInt : CallR X (.type "int") rInt1 := call_int1
theorem kTcount (hK : X.K = K := by rfl) : MtR X "tuple.count" (rCntT K) := hK ▸ mt_tcount
theorem bmK {e : Expr} {T : String} {r : V → List V → Hp → VK → Prop} {to : TE} {t : TA} (h : PE X e (tBM X.K T r to t)) (hK : X.K = K := by rfl) : PE X e (tBM K T r to t) := hK ▸ h
theorem bm0K {e : Expr} {T : String} {r : V → List V → Hp → VK → Prop} {to : TE} (h : PE X e (tBM0 X.K T r to)) (hK : X.K = K := by rfl) : PE X e (tBM0 K T r to) := hK ▸ h
def tTruth (K : PySem.W.Frag) (ta : TE) : TT := fun σ H Q => ta σ H fun x H1 => ∃ k, TruV K x H1 k ∧ Q k H1
theorem pt_truthK {a : Expr} {ta : TE} (ha : PE X a ta) (he : ∀ whole, isTrue a X.env whole = (do let v ← whole; standAt a.pos; holding [v] (truthy v))) (hK : X.K = K := by rfl) : PT X a (tTruth K ta) := hK ▸ pt_truth ha he
end
end L3

/-! tuples that are known to bear no dict: made by displays, by tuple(..), by * ; their methods. -/
namespace L3
open PySem PySem.Spec PyProof.Rows L2
/-- a tuple without a dict of its own -/
def NoD (o : Obj) : Prop := o.cls = .type "tuple" ∧ o.dict = none
def TupF (H : Hp) (p : Addr) (xs : List V) : Prop := ∃ o, NoD o ∧ H p = some (.frz o (.tup xs))
theorem TupF.sq {K : PySem.W.Frag} {H : Hp} {p : Addr} {xs : List V} (h : TupF H p xs) : SqT K H p xs := let ⟨o, _, e⟩ := h; .inl (.inr ⟨o, e⟩)
/-- a new tuple of the values xs -/
def NewT (xs : List V) (H : Hp) (Q : VK) : Prop := ∀ (p : Addr) (o : Obj), H p = none → NoD o → Q (.ref p) (upd H p (.frz o (.tup xs)))
section
variable {X : Cx} {pins : List (Addr × Obj)} {σ : St} {H : Hp} {s : Shared}
theorem newT_run {Q : VK} {xs : List V} {us : List Value} (I : Inv X pins σ H s) (r : Vals xs us) (hz : xs.length ≤ sizeLine) (q : NewT xs H Q) :
    EP X pins σ Q (.ref s.heap.objs.size) { s with heap := s.heap.push { cls := .type "tuple", data := .seq us.toArray } } := by
  have fr : H s.heap.objs.size = none := I.hok.fresh (Nat.le_refl _)
  refine ⟨.ref s.heap.objs.size, upd H s.heap.objs.size (.frz { cls := .type "tuple", data := .seq us.toArray } (.tup xs)), I.laid (t' := s.toks) (fun b u z => Heap.get?_push_of_some _ z) (Nat.le_refl _) ?_, rfl, q _ _ fr ⟨rfl, rfl⟩⟩
  exact ⟨Heap.get?_push_size _ rfl, hz, us, r, _, Heap.get?_push_size _ rfl, rfl, _, rfl⟩
/-- (e, ..) -/
def tTupF (t : TA) : TE := fun σ H Q => t σ H fun xs H1 => xs.length ≤ sizeLine ∧ NewT xs H1 Q
theorem pe_tupF {es : List Expr} {t : TA} {x1 : Nat} {pos : Pos} (h : PA X es t) : PE X (.Tuple es x1 pos) (tTupF t) := by
  refine ⟨fun pins s σ H Q I hq => wpAny_Tuple_spliced (thn (h.run pos pins s σ H _ I hq) ?_)⟩
  rintro us s1 ⟨xs, H1, I1, r, z, q⟩
  exact ⟨by rw [← r.length]; exact z, newT_run I1 r z q⟩
/-- tuple(e), e a list or a tuple -/
def rTupF (K : PySem.W.Frag) : List V → Hp → VK → Prop := fun xs H Q => ∃ p ys, xs = [.ref p] ∧ ((SqL K H p ys ∧ NewT ys H Q) ∨ (SqT K H p ys ∧ Q (.ref p) H))
theorem call_tupleF : CallR X (.type "tuple") (rTupF X.K) := by
  rintro pins s σ H xs us Q I r ⟨p, ys, rfl, h⟩
  obtain ⟨u, rfl, rx⟩ := vals1 r
  cases rx
  rcases h with ⟨hq, q⟩ | ⟨hq, q⟩
  · obtain ⟨its, rv, pl, hz⟩ := I.list hq
    have hl := rv.length
    refine call_tuple_list pl.isList (fun h2 kp => ?_) (by rw [List.size_toArray]; omega)
    have I1 : Inv X pins σ H { s with heap := h2 } := I.kept (t' := s.toks) kp
    exact newT_run I1 rv hz q
  · obtain ⟨its, rv, pl, hz⟩ := I.tuple hq
    exact call_tuple_same pl ⟨.ref p, H, I, rfl, q⟩
/-- a method of a tuple -/
def tBMT (r : V → List V → Hp → VK → Prop) (to : TE) (t : TA) : TE := fun σ H Q => to σ H fun x H1 => (∃ p xs, x = .ref p ∧ TupF H1 p xs) ∧ t σ H1 fun xs H2 => r x xs H2 Q
theorem pe_bmT {o e : Expr} {es : List Expr} {to : TE} {t : TA} {name : Str} {apos cpos : Pos} {id : String} {r : V → List V → Hp → VK → Prop} (pa : PlainAttrs "tuple") (slot : Slot "tuple" name id) (hty : typeOf (.builtin id) = pure (.type "method_descriptor")) (hm : MtR X id r) (ho : PE X o to) (ha : PA X (e :: es) t)
    (hbase : attributeBase o name X.env (eval o X.env) = eval o X.env := by rfl)
    (hfew : ((backTo cpos (starEach (e :: es) X.env)).all (fun x => !x.1) && (backToKw cpos (keywordEach [] X.env)).all (fun x => x.1.isSome) && decide ((e :: es).length + ([] : List Keyword).length + (if ([] : List Keyword).isEmpty then 0 else 1) < 30)) = true := by rfl)
    (hline : (apos.endLine == cpos.line) = true := by rfl) (hst : starEach (e :: es) X.env = (false, eval e X.env) :: starEach es X.env := by rfl) (hpl : (backTo cpos (starEach es X.env)).any (·.1) = false := by rfl) :
    PE X (.Call (.Attribute o name apos) (e :: es) [] cpos) (tBMT r to t) := by
  refine ⟨fun pins s σ H Q I h => wpAny_Call_method_late hbase hfew hline rfl (thn (ho.run pins s σ H _ I h) ?_)⟩
  rintro v s1 ⟨x, H1, I1, r1, ⟨p, xs, rfl, ob, ⟨hc, hd⟩, hp⟩, q1⟩
  cases r1
  obtain ⟨g, _⟩ := I1.hok p _ hp
  refine ⟨"tuple", id, pa, slot, hty, ⟨ob, g, hc⟩, fun a ea => by cases ea; exact ⟨ob, g, hd⟩, ?_⟩
  have hA := ha.run cpos pins s1 σ H1 _ I1 q1
  rw [hst] at hA ⊢
  refine Calls.callWith_builtin (by show (false || (backTo cpos (starEach es X.env)).any (·.1)) = false; rw [hpl]; rfl) (Calls.evalArgs_plain (thn hA ?_))
  rintro us s2 ⟨vs, H2, I2, r2, q2⟩
  exact hm pins s2 σ H2 (.ref p) vs (.ref p) us Q I2 rfl r2 q2
/-! ### t * k -/
open AutoSeq1 (wpAny_loadPart')
theorem tup_mul_one (l : Addr) (items : Array Value) (n : Nat) (dd : Option Addr) (sl : Array (Option Value)) (u : Tok) :
    Meets (Builtin.«tuple.__mul__» ⟨[.ref l, .int 1 u], []⟩) (fun _ R s => s.heap.get? l = some { cls := .type "tuple", dict := dd, data := .seq items n, slots := sl } ∧ R (.ok (.ret (.ref l))) s) :=
  .of_wp fun prog w A R s hh => by
    obtain ⟨hp, g, d, tk, os⟩ := s
    obtain ⟨hl, hR⟩ := hh
    have f1 := AutoSeq1.idx_int
    wp_walk using wpAny_loadPart' hl
    repeat (first
      | (refine wpAny_ite_false (by decide) ?_; wp_walk using wpAny_loadPart' hl)
      | (refine wpAny_ite_true (by rw [show ((1 : Int) == 1) = true from rfl, Bool.or_true]) ?_; wp_walk using wpAny_loadPart' hl))
    exact ⟨_, rfl, hR⟩
theorem tup_mul_none (l : Addr) (items : Array Value) (n : Nat) (dd : Option Addr) (sl : Array (Option Value)) (x : Int) (u : Tok) (c0 : (decide (x < -(2 ^ 63)) || decide (x ≥ 2 ^ 63)) = false) (c1 : (items.isEmpty || x == 1) = false) (c2 : (decide (x ≤ 0) || items.isEmpty) = true) :
    Meets (Builtin.«tuple.__mul__» ⟨[.ref l, .int x u], []⟩) (fun _ R s => s.heap.get? l = some { cls := .type "tuple", dict := dd, data := .seq items n, slots := sl } ∧
      R (.ok (.ret (.ref s.heap.objs.size))) { s with heap := s.heap.push { cls := .type "tuple", data := .seq #[] }, toks := s.toks }) :=
  .of_wp fun prog w A R s hh => by
    obtain ⟨hp, g, d, tk, os⟩ := s
    obtain ⟨hl, hR⟩ := hh
    have f1 := AutoSeq1.idx_int
    wp_walk using wpAny_loadPart' hl
    repeat (first
      | (refine wpAny_ite_false (decide_eq_false (by rw [c0]; exact Bool.false_ne_true)) ?_; wp_walk using wpAny_loadPart' hl)
      | (refine wpAny_ite_false (decide_eq_false (by rw [c1]; exact Bool.false_ne_true)) ?_; wp_walk using wpAny_loadPart' hl)
      | (refine wpAny_ite_true (decide_eq_true c2) ?_; wp_walk using wpAny_loadPart' hl))
    exact ⟨_, rfl, hR⟩
def rRepF (K : PySem.W.Frag) : R2 := fun x y H Q => ∃ l k xs, x = .ref l ∧ y = .int k ∧ SqT K H l xs ∧ xs ≠ [] ∧ -1000 ≤ k ∧ k ≤ 1000 ∧ xs.length ≤ 1000 ∧ (k = 1 → Q (.ref l) H) ∧ (k ≠ 1 → NewT (List.replicate k.toNat xs).flatten H Q)
theorem op_repF : OpR X (binaryOp .Mult) (rRepF X.K) := by
  rintro pins s σ H x y v u Q I rx ry ⟨l, k, xs, rfl, rfl, hT, hne, h0, h1, hz, q1, q2⟩
  cases rx
  obtain ⟨t, rfl⟩ := ry
  obtain ⟨its, r, ⟨⟨cls, dd, data, sl⟩, ho, hc, n, hd⟩, _⟩ := I.tuple hT
  cases (show cls = .type "tuple" from hc)
  cases (show data = .seq its.toArray n from hd)
  have len : its.length = xs.length := r.length.symm
  have pos : 0 < its.length := by
    rw [len]
    exact List.length_pos_iff.mpr hne
  have ie : its.toArray.isEmpty = false := by
    cases its with
    | nil => exact absurd pos (Nat.lt_irrefl 0)
    | cons a b => rfl
  have small : (decide (k < -(2 ^ 63)) || decide (k ≥ 2 ^ 63)) = false := by rw [decide_eq_false (by omega), decide_eq_false (by omega)]; rfl
  refine wpAny_binaryOp_repeat_ref (T := "tuple") (U := "int") (by decide) ⟨_, ho, rfl⟩ (fun s2 => typeIs_int s2 k t) noFill_tuple_mul F.fills_int_mul F.slot_int_rmul repeat_tuple F.slot_int_index.lookup
    (call_meets F.slot_int_rmul (typeIs_int s k t) F.entry_int_rmul (F.args_int_rmul_2 _ _) (int_rmul_tuple k t l its.toArray n dd sl) ⟨ho, rfl, ⟨_, ho, rfl⟩, ?_⟩)
  by_cases hk : k = 1
  · subst hk
    exact call_meets F.slot_tuple_mul ⟨_, ho, rfl⟩ F.entry_tuple_mul (F.args_tuple_mul_2 _ _) (tup_mul_one l its.toArray n dd sl t) ⟨ho, .ref l, H, I, rfl, q1 rfl⟩
  have ne1 : (its.toArray.isEmpty || k == 1) = false := by
    rw [ie, Bool.false_or]
    exact beq_eq_false_iff_ne.mpr hk
  have flat : (List.replicate k.toNat its).flatten.length ≤ 1000 * 1000 := by
    rw [PyProof.Rows.lm_len_rep_flat, len]
    exact Nat.mul_le_mul (by omega) hz
  have flat2 : (List.replicate k.toNat xs).flatten.length ≤ sizeLine := by
    rw [PyProof.Rows.lm_len_rep_flat]
    exact Nat.le_trans (Nat.mul_le_mul (show k.toNat ≤ 1000 by omega) hz) (by decide)
  by_cases hp : k ≤ 0
  · refine call_meets F.slot_tuple_mul ⟨_, ho, rfl⟩ F.entry_tuple_mul (F.args_tuple_mul_2 _ _) (tup_mul_none l its.toArray n dd sl k t small ne1 (by rw [decide_eq_true hp]; rfl)) ⟨ho, ?_⟩
    have e0 : k.toNat = 0 := by omega
    have q3 := q2 hk
    rw [e0] at q3
    exact newT_run I .nil (Nat.zero_le _) q3
  · have sz : its.toArray.size = xs.length := by rw [List.size_toArray, len]
    have prod : ((its.toArray.size : Nat) : Int) * k ≤ 1000000 := by
      rw [sz]
      have a1 : ((xs.length : Nat) : Int) * k ≤ 1000 * k := Int.mul_le_mul_of_nonneg_right (by omega) (by omega)
      omega
    have few : Builtin.Tuple.tupleTooMany (((its.toArray.size : Nat) : Int) * k) = false := by
      unfold Builtin.Tuple.tupleTooMany
      rw [sizeLine_eq]
      exact decide_eq_false (by omega)
    refine call_meets F.slot_tuple_mul ⟨_, ho, rfl⟩ F.entry_tuple_mul (F.args_tuple_mul_2 _ _)
      (tuple_mulW l its.toArray n dd sl k t small ne1 (by rw [ie, Bool.or_false]; exact decide_eq_false hp) (by omega) few (by rw [size_rep, List.size_toArray]; exact Nat.le_trans flat (by decide))) ⟨ho, ?_⟩
    rw [size_rep]
    exact newT_run I (r.rep k.toNat) flat2 (q2 hk)
def rMulF (K : PySem.W.Frag) : R2 := fun x y H Q => rI CMul (fun i j => .int (i * j)) x y H Q ∨ rRepF K x y H Q
theorem kMulF {K : PySem.W.Frag} (hK : X.K = K := by rfl) : OpR X (binaryOp .Mult) (rMulF K) := hK ▸ op_mul.or op_repF
theorem kTupleF {K : PySem.W.Frag} (hK : X.K = K := by rfl) : CallR X (.type "tuple") (rTupF K) := hK ▸ call_tupleF
theorem pe_revK {K : PySem.W.Frag} {e : Expr} {te : TE} {k : Nat} {p1 p2 p3 pos : Pos} (he : PE X e te) (hK : X.K = K := by rfl) : PE X (.Subscript e (.Slice none none (some (.UnaryOp .USub (.Constant (.int 1) k p1) p2)) p3) pos) (tRevL K te) := hK ▸ pe_revL he
/-- a statement, then the rest, joined by a word of the state between them -/
def tJoin (t u : TS) : TS := fun D σ H => ∃ Mid : L2.St → Hp → Prop, t { D with nx := Mid } σ H ∧ ∀ τ G, Mid τ G → u D τ G
theorem pss_join {st : Stmt} {rest : List Stmt} {t u : TS} (h1 : PS X st t) (h2 : PSs X rest u) : PSs X (st :: rest) (tJoin t u) := by
  refine ⟨fun pins s σ H D I ⟨Mid, hm, hu⟩ => wpAny_execs_cons (thn (h1.run pins s σ H { D with nx := Mid } I hm) fun f s1 q => ?_)⟩
  match f, q with
  | .next, ⟨τ, G, J, q⟩ => exact h2.run pins s1 τ G D J (hu τ G q)
  | .ret v, q => exact q
  | .brk, q => exact q
  | .cont, q => exact q
/-- an expression whose ways are joined -/
def tJoinE (t : TE) : TE := fun σ H Q => ∃ Mid : VK, t σ H Mid ∧ ∀ v G, Mid v G → Q v G
theorem pe_join {e : Expr} {t : TE} (h : PE X e t) : PE X e (tJoinE t) := by
  refine ⟨fun pins s σ H Q I ⟨Mid, hm, hq⟩ => thn (h.run pins s σ H Mid I hm) ?_⟩
  rintro u s1 ⟨v, G, J, r, q⟩
  exact ⟨v, G, J, r, hq v G q⟩
end
end L3

/-! readings, step by step: I is what stays as it is, ps what is the def's own to change. -/
namespace L3
open PySem PySem.Spec PyProof.Rows L2
def Ex (I J : Hp) : Prop := ∀ a o, I a = some o → J a = some o
theorem Ex.refl (I : Hp) : Ex I I := fun _ _ h => h
theorem Ex.trans {I J L : Hp} (h : Ex I J) (k : Ex J L) : Ex I L := fun a o e => k a o (h a o e)
theorem Ex.back {I J L : Hp} (k : Ex J L) (h : Ex I J) : Ex I L := h.trans k
theorem Ex.new {I : Hp} {p : Addr} {o : HO} (h : I p = none) : Ex I (upd I p o) := fun a u e => by
  rw [upd_ne (ne_of_none e h)]
  exact e
abbrev PL := List (Addr × HO)
structure Own (I : Hp) (ps : PL) (H : Hp) : Prop where
  ex : Ex I H
  pr : ∀ p ∈ ps, H p.1 = some p.2 ∧ I p.1 = none
  nd : (ps.map Prod.fst).Nodup
/-! ### facts that stay -/
section
variable {K : PySem.W.Frag} {I J : Hp} {a : Addr} {xs : List V} {o : HO} {v : V} {d : PyData}
theorem At.up (e : Ex I J) (h : I a = some o) : J a = some o := e a o h
theorem Rd.up {u : HO} (e : Ex I J) (h : Rd I a u) : Rd J a u := by
  rcases h with h | ⟨o, h⟩
  · exact .inl (e _ _ h)
  · exact .inr ⟨o, e _ _ h⟩
theorem SqT.up (e : Ex I J) (h : SqT K I a xs) : SqT K J a xs := h.elim (fun h => .inl (Rd.up e h)) .inr
theorem SqL.up (e : Ex I J) (h : SqL K I a xs) : SqL K J a xs := h.elim (fun h => .inl (Rd.up e h)) .inr
theorem TupF.up (e : Ex I J) (h : TupF I a xs) : TupF J a xs := let ⟨o, n, q⟩ := h; ⟨o, n, e _ _ q⟩
mutual
theorem Dp.up (e : Ex I J) : ∀ {v : V} {d : PyData}, Dp K I v d → Dp K J v d
  | _, _, .non => .non
  | _, _, .bl b => .bl b
  | _, _, .int i => .int i
  | _, _, .str x => .str x
  | _, _, .lst h hs => .lst (SqL.up e h) (DpAll.up e hs)
  | _, _, .tup h hs => .tup (SqT.up e h) (DpAll.up e hs)
theorem DpAll.up (e : Ex I J) : ∀ {vs : List V} {ds : List PyData}, DpAll K I vs ds → DpAll K J vs ds
  | _, _, .nil => .nil
  | _, _, .cons h hs => .cons (Dp.up e h) (DpAll.up e hs)
end
theorem dpAll_ints : ∀ ns : List Int, DpAll K I (ns.map V.int) (ns.map PyData.int)
  | [] => .nil
  | n :: ns => .cons (.int n) (dpAll_ints ns)
theorem dp_ints {ns : List Int} (h : SqT K I a (ns.map V.int)) : Dp K I (.ref a) (.tuple (ns.map .int)) := .tup h (dpAll_ints ns)
end
/-! ### the state -/
section
variable {K : PySem.W.Frag} {I J H H2 : Hp} {ps qs : PL} {a p l : Addr} {xs : List V} {o u : HO} {v : V} {Q : VK}
theorem Own.sT (O : Own I ps H) (h : SqT K I a xs) : SqT K H a xs := SqT.up O.ex h
theorem Own.sL (O : Own I ps H) (h : SqL K I a xs) : SqL K H a xs := SqL.up O.ex h
theorem Own.dp {d : PyData} (O : Own I ps H) (h : Dp K I v d) : Dp K H v d := Dp.up O.ex h
theorem Own.at (O : Own I ps H) (h : I a = some o) : H a = some o := O.ex _ _ h
theorem Own.ix {i : Nat} (O : Own I ps H) (h : ps[i]? = some (l, o)) : H l = some o := (O.pr _ (List.mem_of_getElem? h)).1
theorem Own.none (O : Own I ps H) (h : H p = none) : I p = none := by
  cases q : I p with
  | none => rfl
  | some o => rw [O.ex _ _ q] at h; cases h
theorem Own.notin (O : Own I ps H) (h : H p = Option.none) : p ∉ ps.map Prod.fst := fun hm => by
  obtain ⟨q, hq, e⟩ := List.mem_map.mp hm
  have := (O.pr q hq).1
  rw [e, h] at this
  cases this
/-- the heap grows by what is of no matter -/
theorem Own.mono (O : Own I ps H) (e : Ex H H2) : Own I ps H2 := ⟨O.ex.trans e, fun p hp => ⟨e _ _ (O.pr p hp).1, (O.pr p hp).2⟩, O.nd⟩
theorem Own.skip (O : Own I ps H) (h : H p = Option.none) : Own I ps (upd H p o) := O.mono (Ex.new h)
/-- a new object that stays as it is -/
theorem Own.keep (O : Own I ps H) (h : H p = Option.none) : Own (upd I p o) ps (upd H p o) where
  ex := fun b w e => by
    by_cases hb : b = p
    · subst hb; rw [upd_same] at e ⊢; exact e
    · rw [upd_ne hb] at e ⊢; exact O.ex _ _ e
  pr := fun q hq => by
    have ne : q.1 ≠ p := ne_of_none (O.pr q hq).1 h
    rw [upd_ne ne, upd_ne ne]
    exact O.pr q hq
  nd := O.nd
/-- a new object of one's own -/
theorem Own.own (O : Own I ps H) (h : H p = Option.none) : Own I ((p, o) :: ps) (upd H p o) where
  ex := O.ex.trans (Ex.new h)
  pr := fun q hq => by
    rcases List.mem_cons.mp hq with rfl | hq
    · exact ⟨upd_same, O.none h⟩
    · rw [upd_ne (ne_of_none (O.pr q hq).1 h)]
      exact O.pr q hq
  nd := List.nodup_cons.mpr ⟨O.notin h, O.nd⟩
theorem nodup_inj {α β : Type} {f : α → β} : ∀ {l : List α} {i j : Nat} {x y : α}, (l.map f).Nodup → l[i]? = some x → l[j]? = some y → f x = f y → i = j := by
  intro l i j x y nd hi hj e
  have h1 := (List.getElem?_eq_some_iff.mp hi).1
  have h2 := (List.getElem?_eq_some_iff.mp hj).1
  have e1 : (l.map f)[i]'(by simpa using h1) = f x := by simp [(List.getElem?_eq_some_iff.mp hi).2]
  have e2 : (l.map f)[j]'(by simpa using h2) = f y := by simp [(List.getElem?_eq_some_iff.mp hj).2]
  exact (List.getElem_inj nd).mp (by rw [e1, e2, e])
/-- an own object changes -/
theorem Own.set {i : Nat} (O : Own I ps H) (h : ps[i]? = some (l, o)) : Own I (ps.set i (l, u)) (upd H l u) where
  ex := fun b w e => by
    have hn := (O.pr _ (List.mem_of_getElem? h)).2
    rw [upd_ne (ne_of_none e hn)]
    exact O.ex _ _ e
  pr := fun q hq => by
    obtain ⟨j, hj⟩ := List.getElem?_of_mem hq
    rw [List.getElem?_set] at hj
    by_cases hij : i = j
    · rw [if_pos hij] at hj
      split at hj
      · cases hj
        exact ⟨upd_same, (O.pr _ (List.mem_of_getElem? h)).2⟩
      · cases hj
    · rw [if_neg hij] at hj
      have ne : q.1 ≠ l := fun e => hij (nodup_inj O.nd h hj e.symm)
      rw [upd_ne ne]
      exact O.pr q (List.mem_of_getElem? hj)
  nd := by
    have e : (ps.set i (l, u)).map Prod.fst = ps.map Prod.fst := by
      rw [List.map_set]
      have h1 := (List.getElem?_eq_some_iff.mp h).1
      apply List.ext_getElem?
      intro j
      rw [List.getElem?_set]
      split
      · rename_i hij
        subst hij
        obtain ⟨h3, h4⟩ := List.getElem?_eq_some_iff.mp h
        simp [h3, h4]
      · rfl
    rw [e]
    exact O.nd
/-- an own object is changed no more -/
theorem Own.freeze (O : Own I ((p, o) :: ps) H) : Own (upd I p o) ps H where
  ex := fun b w e => by
    by_cases hb : b = p
    · subst hb
      rw [upd_same] at e
      cases e
      exact (O.pr _ List.mem_cons_self).1
    · rw [upd_ne hb] at e
      exact O.ex _ _ e
  pr := fun q hq => by
    have ne : q.1 ≠ p := fun e => (List.nodup_cons.mp O.nd).1 (by rw [← e]; exact List.mem_map.mpr ⟨q, hq, rfl⟩)
    rw [upd_ne ne]
    exact O.pr q (List.mem_cons_of_mem _ hq)
  nd := (List.nodup_cons.mp O.nd).2
theorem Own.exf (O : Own I ((p, o) :: ps) H) : Ex I (upd I p o) := Ex.new (O.pr _ List.mem_cons_self).2
theorem Own.drop (O : Own I ((p, o) :: ps) H) : Own I ps H := ⟨O.ex, fun q hq => O.pr q (List.mem_cons_of_mem _ hq), (List.nodup_cons.mp O.nd).2⟩
theorem Own.perm (O : Own I ps H) (h : qs.Perm ps) : Own I qs H := ⟨O.ex, fun q hq => O.pr q (h.mem_iff.mp hq), (h.map _).nodup_iff.mpr O.nd⟩
theorem own_start (H : Hp) : Own H [] H := ⟨Ex.refl H, fun _ h => absurd h List.not_mem_nil, List.nodup_nil⟩
end
/-! ### the same beside a deck: a list of a list of ints, an int, a count -/
/-- what a deck holds -/
def DkOk (n m k : Int) (cells : List Int) : Prop := 0 ≤ m ∧ m < 4294967296 ∧ 0 ≤ k ∧ k ≤ n ∧ cells.length ≤ 64
abbrev dkP (d c : Addr) (m k : Int) (cells : List Int) (ps : PL) : PL := (d, .lst [.ref c, .int m, .int k]) :: (c, .lst (cells.map V.int)) :: ps
inductive Kn where
  | own
  | deck (d : Addr) (n : Int)
def Sta : Kn → Hp → PL → Hp → Prop
  | .own, I, ps, H => Own I ps H
  | .deck d n, I, ps, H => ∃ (c : Addr) (m k : Int) (cells : List Int), DkOk n m k cells ∧ Own I (dkP d c m k cells ps) H
section
variable {K : PySem.W.Frag} {κ : Kn} {I J H H2 : Hp} {ps qs : PL} {a p l : Addr} {xs : List V} {o u : HO} {v : V} {Q : VK}
theorem Sta.ex : ∀ {κ : Kn}, Sta κ I ps H → Ex I H
  | .own, O => Own.ex O
  | .deck _ _, ⟨_, _, _, _, _, O⟩ => O.ex
theorem Sta.mono : ∀ {κ : Kn}, Sta κ I ps H → Ex H H2 → Sta κ I ps H2
  | .own, O, e => Own.mono O e
  | .deck _ _, ⟨c, m, k, cs, h, O⟩, e => ⟨c, m, k, cs, h, O.mono e⟩
theorem Sta.skip (O : Sta κ I ps H) (h : H p = none) : Sta κ I ps (upd H p o) := O.mono (Ex.new h)
theorem Sta.none (O : Sta κ I ps H) (h : H p = none) : I p = none := by
  cases q : I p with
  | none => rfl
  | some o => rw [O.ex _ _ q] at h; cases h
theorem Sta.keep : ∀ {κ : Kn}, Sta κ I ps H → H p = Option.none → Sta κ (upd I p o) ps (upd H p o)
  | .own, O, h => Own.keep O h
  | .deck _ _, ⟨c, m, k, cs, g, O⟩, h => ⟨c, m, k, cs, g, O.keep h⟩
theorem perm2 {α : Type} (x y z : α) (l : List α) : (x :: y :: z :: l).Perm (z :: x :: y :: l) := ((List.Perm.swap z y l).cons x).trans (List.Perm.swap z x (y :: l))
theorem Sta.own : ∀ {κ : Kn}, Sta κ I ps H → H p = Option.none → Sta κ I ((p, o) :: ps) (upd H p o)
  | .own, O, h => Own.own O h
  | .deck _ _, ⟨c, m, k, cs, g, O⟩, h => ⟨c, m, k, cs, g, (O.own h).perm (perm2 ..)⟩
theorem Sta.ix : ∀ {κ : Kn} {i : Nat}, Sta κ I ps H → ps[i]? = some (l, o) → H l = some o
  | .own, i, O, h => Own.ix (i := i) O h
  | .deck _ _, i, ⟨c, m, k, cs, g, O⟩, h => Own.ix (i := i + 2) O h
theorem Sta.set : ∀ {κ : Kn} {i : Nat}, Sta κ I ps H → ps[i]? = some (l, o) → Sta κ I (ps.set i (l, u)) (upd H l u)
  | .own, i, O, h => Own.set (i := i) O h
  | .deck _ _, i, ⟨c, m, k, cs, g, O⟩, h => ⟨c, m, k, cs, g, Own.set (i := i + 2) O h⟩
theorem Sta.freeze : ∀ {κ : Kn}, Sta κ I ((p, o) :: ps) H → Sta κ (upd I p o) ps H
  | .own, O => Own.freeze O
  | .deck _ _, ⟨c, m, k, cs, g, O⟩ => ⟨c, m, k, cs, g, Own.freeze (O.perm (perm2 ..).symm)⟩
theorem Sta.exf : ∀ {κ : Kn}, Sta κ I ((p, o) :: ps) H → Ex I (upd I p o)
  | .own, O => Own.exf O
  | .deck _ _, ⟨c, m, k, cs, g, O⟩ => Own.exf (O.perm (perm2 ..).symm)
theorem Sta.drop : ∀ {κ : Kn}, Sta κ I ((p, o) :: ps) H → Sta κ I ps H
  | .own, O => Own.drop O
  | .deck _ _, ⟨c, m, k, cs, g, O⟩ => ⟨c, m, k, cs, g, Own.drop (O.perm (perm2 ..).symm)⟩
theorem Sta.perm : ∀ {κ : Kn}, Sta κ I ps H → qs.Perm ps → Sta κ I qs H
  | .own, O, h => Own.perm O h
  | .deck _ _, ⟨c, m, k, cs, g, O⟩, h => ⟨c, m, k, cs, g, O.perm ((h.cons _).cons _)⟩
theorem Sta.up {d : Addr} {n n2 : Int} (O : Sta (.deck d n) I ps H) (h : n ≤ n2) : Sta (.deck d n2) I ps H := by
  obtain ⟨c, m, k, cs, ⟨g1, g2, g3, g4, g5⟩, O⟩ := O
  exact ⟨c, m, k, cs, ⟨g1, g2, g3, by omega, g5⟩, O⟩
theorem Own.back (O : Own J ps H) (e : Ex I J) : Own I ps H := ⟨e.trans O.ex, fun p hp => ⟨(O.pr p hp).1, by
  cases q : I p.1 with
  | none => rfl
  | some o =>
    have := (O.pr p hp).2
    rw [e _ _ q] at this
    cases this⟩, O.nd⟩
theorem Sta.back : ∀ {κ : Kn}, Sta κ J ps H → Ex I J → Sta κ I ps H
  | .own, O, e => Own.back O e
  | .deck _ _, ⟨c, m, k, cs, g, O⟩, e => ⟨c, m, k, cs, g, O.back e⟩
theorem Sta.sT (O : Sta κ I ps H) (h : SqT K I a xs) : SqT K H a xs := SqT.up O.ex h
theorem Sta.sL (O : Sta κ I ps H) (h : SqL K I a xs) : SqL K H a xs := SqL.up O.ex h
theorem Sta.pL {i : Nat} (O : Sta κ I ps H) (h : ps[i]? = some (l, .lst xs)) : SqL K H l xs := SqL.of (O.ix h)
/-- a new tuple, a new list, kept as they are -/
theorem Sta.newT (O : Sta κ I ps H) (k : ∀ p J H2, Sta κ J ps H2 → Ex I J → TupF J p xs → Q (.ref p) H2) : NewT xs H Q := fun p o hp nd =>
  k p _ _ (O.keep hp) (Ex.new (O.none hp)) ⟨o, nd, upd_same⟩
theorem Sta.newO (O : Sta κ I ps H) (k : ∀ p J H2, Sta κ J ps H2 → Ex I J → J p = some o → Q (.ref p) H2) : ∀ p, H p = Option.none → Q (.ref p) (upd H p o) := fun p hp =>
  k p _ _ (O.keep hp) (Ex.new (O.none hp)) upd_same
theorem Sta.newP (O : Sta κ I ps H) (k : ∀ p H2, Sta κ I ((p, o) :: ps) H2 → Q (.ref p) H2) : ∀ p, H p = Option.none → Q (.ref p) (upd H p o) := fun p hp => k p _ (O.own hp)
end
end L3

/-! the steps of readings. -/
namespace L3
open PySem PySem.Spec PyProof.Rows L2
section
variable {K : PySem.W.Frag} {κ : Kn} {I J H H1 H2 : Hp} {ps qs : PL} {a p l b : Addr} {xs ys : List V} {o u : HO} {v x y : V} {Q : VK} {σ σ2 : St} {D : Ends} {i j : Nat}
/-! statements -/
theorem r_seq {t1 t2 : TS} (h : t1 { D with nx := t2 D } σ H) : tSeq t1 t2 D σ H := h
theorem r_next (h : D.nx σ H) : tNext D σ H := h
theorem r_nx {f : St → Hp → Prop} {r : VK} {bk ct : St → Hp → Prop} (h : f σ H) : Ends.nx ⟨f, r, bk, ct⟩ σ H := h
theorem r_rt {f : St → Hp → Prop} {r : VK} {bk ct : St → Hp → Prop} (h : r v H) : Ends.rt ⟨f, r, bk, ct⟩ v H := h
theorem r_bk {f : St → Hp → Prop} {r : VK} {bk ct : St → Hp → Prop} (h : bk σ H) : Ends.bk ⟨f, r, bk, ct⟩ σ H := h
theorem r_ct {f : St → Hp → Prop} {r : VK} {bk ct : St → Hp → Prop} (h : ct σ H) : Ends.ct ⟨f, r, bk, ct⟩ σ H := h
theorem r_break (h : D.bk σ H) : tBreak D σ H := h
theorem r_cont (h : D.ct σ H) : tCont D σ H := h
theorem r_drop {te : TE} (h : te σ H fun _ H1 => D.nx σ H1) : tDrop te D σ H := h
theorem r_ret {te : TE} (h : te σ H D.rt) : tRet te D σ H := h
theorem r_retN (h : D.rt .non H) : tRetN D σ H := h
theorem r_ifs {c : TT} {t1 t2 : TS} (h : c σ H fun b H1 => if b = true then t1 D σ H1 else t2 D σ H1) : tIfS c t1 t2 D σ H := h
theorem r_asg {te : TE} {g : TG} (h : te σ H fun x H1 => g x σ H1 D.nx) : tAsg te g D σ H := h
theorem r_par {ta : TA} (h : ta σ H fun vs H1 => ∃ v w, vs = [v, w] ∧ D.nx ((σ.set i (some v)).set j (some w)) H1) : tPar i j ta D σ H := h
theorem r_par3 {ta : TA} {l : Nat} (h : ta σ H fun vs H1 => ∃ u v w, vs = [u, v, w] ∧ D.nx (((σ.set i (some u)).set j (some v)).set l (some w)) H1) : tPar3 i j l ta D σ H := h
theorem r_aug {te : TE} {ti : TIp} (hx : σ[i]? = some (some x)) (h : te σ H fun y H1 => ti x y H1 fun z H2 => D.nx (σ.set i (some z)) H2) : tAug i te ti D σ H := ⟨x, hx, h⟩
/-! targets -/
theorem r_gname {R : St → Hp → Prop} (e : σ.set i (some v) = σ2) (h : R σ2 H) : gName i v σ H R := by
  show R (σ.set i (some v)) H
  rw [e]
  exact h
theorem r_gnil {R : St → Hp → Prop} (h : R σ H) : gNil [] σ H R := ⟨rfl, h⟩
theorem r_gcons {R : St → Hp → Prop} {t : TG} {w : TGs} (h : t v σ H fun σ1 H1 => w xs σ1 H1 R) : gCons t w (v :: xs) σ H R := ⟨v, xs, rfl, h⟩
theorem r_gtup {R : St → Hp → Prop} {n : Nat} {t : TGs} (O : Sta κ I ps H) (h : SqT K I a xs) (hl : xs.length = n) (k : t xs σ H R) : gTup K n t (.ref a) σ H R := ⟨a, xs, rfl, O.sT h, hl, k⟩
/-! expressions -/
theorem r_var (h : σ[i]? = some (some v)) (k : Q v H) : tVar i σ H Q := ⟨v, h, k⟩
theorem r_c (k : Q v H) : tC v σ H Q := k
theorem r_op {r : R2} {ta tb : TE} (h : ta σ H fun x H1 => tb σ H1 fun y H2 => r x y H2 Q) : tOp r ta tb σ H Q := h
theorem r_un {r : V → Hp → VK → Prop} {ta : TE} (h : ta σ H fun x H1 => r x H1 Q) : tUn r ta σ H Q := h
theorem r_rU {g : Int → V} {i : Int} (k : Q (g i) H) : rU g (.int i) H Q := ⟨i, rfl, k⟩
theorem r_I0 {g : Int → Int → V} {i j : Int} (k : Q (g i j) H) : rI0 g (.int i) (.int j) H Q := ⟨i, j, rfl, rfl, k⟩
theorem r_I {C : Int → Int → Prop} {g : Int → Int → V} {i j : Int} (hc : C i j) (k : Q (g i j) H) : rI C g (.int i) (.int j) H Q := ⟨i, j, rfl, rfl, hc, k⟩
theorem r_addI {i j : Int} (k : Q (.int (i + j)) H) : rAddA K (.int i) (.int j) H Q := .inl ⟨i, j, rfl, rfl, k⟩
theorem r_mulI {i j : Int} (hc : CMul i j) (k : Q (.int (i * j)) H) : rMulF K (.int i) (.int j) H Q := .inl ⟨i, j, rfl, rfl, hc, k⟩
theorem r_addT (O : Sta κ I ps H) (ha : SqT K I a xs) (hb : SqT K I b ys) (hl : xs.length + ys.length ≤ sizeLine) (k : ∀ p J H2, Sta κ J ps H2 → Ex I J → SqT K J p (xs ++ ys) → Q (.ref p) H2) : rAddA K (.ref a) (.ref b) H Q := by
  refine .inr (.inl ⟨a, b, xs, ys, rfl, rfl, O.sT ha, O.sT hb, hl, fun e => ?_, fun _ e => ?_, fun _ _ => O.newO fun p J H2 O2 e h => k p J H2 O2 e (SqT.of h)⟩)
  · refine k b I H O (Ex.refl I) ?_
    rw [e]
    exact hb
  · refine k a I H O (Ex.refl I) ?_
    rw [e, List.append_nil]
    exact ha
theorem r_addLp (O : Sta κ I ps H) (ha : H a = some (.lst xs)) (hb : H b = some (.lst ys)) (hl : xs.length + ys.length ≤ sizeLine) (k : ∀ p J H2, Sta κ J ps H2 → Ex I J → J p = some (.lst (xs ++ ys)) → Q (.ref p) H2) : rAddA K (.ref a) (.ref b) H Q :=
  .inr (.inr (.inl ⟨a, b, xs, ys, rfl, rfl, ha, hb, hl, O.newO k⟩))
theorem r_repF {k : Int} (O : Sta κ I ps H) (ha : TupF I a xs) (hne : xs ≠ []) (h0 : -1000 ≤ k) (h1 : k ≤ 1000) (hl : xs.length ≤ 1000) (c : ∀ p J H2, Sta κ J ps H2 → Ex I J → TupF J p (List.replicate k.toNat xs).flatten → Q (.ref p) H2) : rMulF K (.ref a) (.int k) H Q := by
  refine .inr ⟨a, k, xs, rfl, rfl, O.sT ha.sq, hne, h0, h1, hl, fun e => ?_, fun _ => O.newT c⟩
  subst e
  refine c a I H O (Ex.refl I) ?_
  have : (List.replicate (1 : Int).toNat xs).flatten = xs := by simp
  rw [this]
  exact ha
theorem r_eqS (hs : scal x y = true) (k : Q (.bl (decide (x = y))) H) : rEqA K x y H Q := .inl ⟨hs, k⟩
theorem r_neS (hs : scal x y = true) (k : Q (.bl (!decide (x = y))) H) : rNeA K x y H Q := .inl ⟨hs, k⟩
theorem r_eqI {i j : Int} (k : Q (.bl (decide (i = j))) H) : rEqA K (.int i) (.int j) H Q := .inl ⟨rfl, by
  have e : decide (V.int i = V.int j) = decide (i = j) := by simp
  rw [e]; exact k⟩
theorem r_neI {i j : Int} (k : Q (.bl (!decide (i = j))) H) : rNeA K (.int i) (.int j) H Q := .inl ⟨rfl, by
  have e : decide (V.int i = V.int j) = decide (i = j) := by simp
  rw [e]; exact k⟩
theorem r_eqD {d e : PyData} (O : Sta κ I ps H) (hd : Dp K I x d) (he : Dp K I y e) (h1 : SeqAt.shaped d = true) (h2 : SeqAt.shaped e = true) (k : Q (.bl (PyData.eqv d e)) H) : rEqA K x y H Q := .inr ⟨d, e, Dp.up O.ex hd, Dp.up O.ex he, h1, h2, k⟩
theorem r_neD {d e : PyData} (O : Sta κ I ps H) (hd : Dp K I x d) (he : Dp K I y e) (h1 : SeqAt.shaped d = true) (h2 : SeqAt.shaped e = true) (k : Q (.bl (!PyData.eqv d e)) H) : rNeA K x y H Q := .inr ⟨d, e, Dp.up O.ex hd, Dp.up O.ex he, h1, h2, k⟩
theorem r_isN (k : Q (.bl (decide (x = .non))) H) : rIsNone x .non H Q := ⟨rfl, k⟩
theorem r_notN (k : Q (.bl (!decide (x = .non))) H) : rIsNotNone x .non H Q := ⟨rfl, k⟩
theorem r_ixT {i : Int} (O : Sta κ I ps H) (h : SqT K I a xs) (e : atI xs i = some v) (k : Q v H) : rIx K (.ref a) (.int i) H Q := .inr (.inl ⟨a, xs, i, v, rfl, rfl, O.sT h, e, k⟩)
theorem r_ixL {i : Int} (O : Sta κ I ps H) (h : SqL K H a xs) (e : atI xs i = some v) (k : Q v H) : rIx K (.ref a) (.int i) H Q := .inl ⟨a, xs, i, v, rfl, rfl, h, e, k⟩
theorem cut_whole {xs : List V} {lo hi : Option Int} (h : HT.sIx xs.length 0 lo = 0 ∧ HT.sIx xs.length xs.length hi = xs.length) : cutV xs lo hi = xs := by
  unfold cutV
  rw [h.1, h.2]
  simp
theorem r_slT {lo hi : Option Int} (O : Sta κ I ps H) (h : SqT K I a xs) (k : ∀ p J H2, Sta κ J ps H2 → Ex I J → SqT K J p (cutV xs lo hi) → Q (.ref p) H2) : rSlS K (.ref a) lo hi H Q := by
  refine .inr ⟨a, xs, rfl, O.sT h, fun w => ?_, fun _ => O.newO fun p J H2 O2 e q => k p J H2 O2 e (SqT.of q)⟩
  refine k a I H O (Ex.refl I) ?_
  rw [cut_whole w]
  exact h
theorem r_slL {lo hi : Option Int} (O : Sta κ I ps H) (h : SqL K H a xs) (k : ∀ p J H2, Sta κ J ps H2 → Ex I J → J p = some (.lst (cutV xs lo hi)) → Q (.ref p) H2) : rSlS K (.ref a) lo hi H Q := .inl ⟨a, xs, rfl, h, O.newO k⟩
theorem r_sl {r : V → Option Int → Option Int → Hp → VK → Prop} {te : TE} {tl th : TO} (h : te σ H fun x H1 => tl σ H1 fun lo H2 => th σ H2 fun hi H3 => r x lo hi H3 Q) : tSl r te tl th σ H Q := h
theorem r_nopart {R : Option Int → Hp → Prop} (h : R none H) : tNoPart σ H R := h
theorem r_part {R : Option Int → Hp → Prop} {t : TE} (h : t σ H fun x H1 => ∃ i, x = .int i ∧ R (some i) H1) : tPart t σ H R := h
theorem r_nil {R : List V → Hp → Prop} (h : R [] H) : tNil σ H R := h
theorem r_cons {R : List V → Hp → Prop} {ta : TE} {tr : TA} (h : ta σ H fun x H1 => tr σ H1 fun xs H2 => R (x :: xs) H2) : tCons ta tr σ H R := h
theorem r_star {R : List V → Hp → Prop} {te : TE} {tr : TA} (h : te σ H fun x H1 => ∃ a xs, x = .ref a ∧ (SqT K H1 a xs ∨ SqL K H1 a xs) ∧ tr σ H1 fun ys H2 => R (xs ++ ys) H2) : tStar K te tr σ H R := h
theorem r_starT {P : List V → Prop} (O : Sta κ I ps H) (h : SqT K I a xs) (k : P xs) : ∃ a2 xs2, V.ref a = .ref a2 ∧ (SqT K H a2 xs2 ∨ SqL K H a2 xs2) ∧ P xs2 := ⟨a, xs, rfl, .inl (O.sT h), k⟩
theorem r_tupF {t : TA} (h : t σ H fun xs H1 => xs.length ≤ sizeLine ∧ NewT xs H1 Q) : tTupF t σ H Q := h
def NewL (xs : List V) (H : Hp) (Q : VK) : Prop := ∀ p, H p = none → Q (.ref p) (upd H p (.lst xs))
theorem r_lst {t : TA} (h : t σ H fun xs H1 => xs.length ≤ sizeLine ∧ NewL xs H1 Q) : tLst t σ H Q := h
theorem r_newT (O : Sta κ I ps H) (hl : xs.length ≤ sizeLine) (k : ∀ p J H2, Sta κ J ps H2 → Ex I J → TupF J p xs → Q (.ref p) H2) : xs.length ≤ sizeLine ∧ NewT xs H Q := ⟨hl, O.newT k⟩
/-- a list that stays as it is; a list of one's own -/
theorem r_newL (O : Sta κ I ps H) (hl : xs.length ≤ sizeLine) (k : ∀ p J H2, Sta κ J ps H2 → Ex I J → J p = some (.lst xs) → Q (.ref p) H2) : xs.length ≤ sizeLine ∧ NewL xs H Q := ⟨hl, O.newO k⟩
theorem r_newP (O : Sta κ I ps H) (hl : xs.length ≤ sizeLine) (k : ∀ p H2, Sta κ I ((p, .lst xs) :: ps) H2 → Q (.ref p) H2) : xs.length ≤ sizeLine ∧ NewL xs H Q := ⟨hl, O.newP k⟩
/-! tests -/
theorem r_test {t : TE} {R : Bool → Hp → Prop} (h : t σ H fun x H1 => ∃ k, x = .bl k ∧ R k H1) : tTest t σ H R := h
theorem r_truth {t : TE} {R : Bool → Hp → Prop} (h : t σ H fun x H1 => ∃ k, TruV K x H1 k ∧ R k H1) : tTruth K t σ H R := h
theorem r_truB {R : Bool → Hp → Prop} {c : Bool} (h : R c H) : ∃ k, TruV K (.bl c) H k ∧ R k H := ⟨c, rfl, h⟩
theorem r_exB {P : Bool → Prop} {c : Bool} (h : P c) : ∃ k, V.bl c = .bl k ∧ P k := ⟨c, rfl, h⟩
theorem r_exI {P : Int → Prop} {i : Int} (h : P i) : ∃ k, V.int i = .int k ∧ P k := ⟨i, rfl, h⟩
theorem r_ex2 {P : V → V → Prop} (h : P x y) : ∃ v w, [x, y] = [v, w] ∧ P v w := ⟨x, y, rfl, h⟩
theorem r_ex3 {P : V → V → V → Prop} {z : V} (h : P x y z) : ∃ u v w, [x, y, z] = [u, v, w] ∧ P u v w := ⟨x, y, z, rfl, h⟩
theorem r_and {t w : TT} {R : Bool → Hp → Prop} (h : t σ H fun c H1 => if c = true then w σ H1 R else R false H1) : tAnd t w σ H R := h
theorem r_or {t w : TT} {R : Bool → Hp → Prop} (h : t σ H fun c H1 => if c = true then R true H1 else w σ H1 R) : tOr t w σ H R := h
theorem r_not {t : TT} {R : Bool → Hp → Prop} (h : t σ H fun c H1 => R (!c) H1) : tNot t σ H R := h
theorem r_andV {ta tb : TE} (h : ta σ H fun x H1 => ∃ c, x = .bl c ∧ if c = true then tb σ H1 Q else Q (.bl false) H1) : tAndV ta tb σ H Q := h
theorem r_orV {ta tb : TE} (h : ta σ H fun x H1 => ∃ c, x = .bl c ∧ if c = true then Q (.bl true) H1 else tb σ H1 Q) : tOrV ta tb σ H Q := h
theorem r_notV {ta : TE} (h : ta σ H fun x H1 => ∃ c, x = .bl c ∧ Q (.bl (!c)) H1) : tNotV ta σ H Q := h
theorem r_ifE {t : TT} {ta tb : TE} (h : t σ H fun c H1 => if c = true then ta σ H1 Q else tb σ H1 Q) : tIf t ta tb σ H Q := h
theorem r_chain {r r2 : R2} {ta tb tc : TE} (h : ta σ H fun x H1 => tb σ H1 fun y H2 => r x y H2 fun z H3 => ∃ k, z = .bl k ∧ (if k = true then tc σ H3 fun w H4 => r2 y w H4 Q else Q (.bl false) H3)) : tChain r r2 ta tb tc σ H Q := h
theorem r_ite {A B : Prop} {p : Prop} [Decidable p] (h1 : p → A) (h2 : ¬ p → B) : if decide p = true then A else B := by
  by_cases h : p
  · rw [if_pos (decide_eq_true h)]; exact h1 h
  · rw [if_neg (by rw [decide_eq_false h]; exact Bool.false_ne_true)]; exact h2 h
theorem r_iteN {A B : Prop} {c : Bool} (h : if c = true then B else A) : if (!c) = true then A else B := by
  cases c with
  | true => exact h
  | false => exact h
theorem r_iteT {A B : Prop} (h : A) : if true = true then A else B := by rw [if_pos rfl]; exact h
theorem r_iteF {A B : Prop} (h : B) : if false = true then A else B := by rw [if_neg Bool.false_ne_true]; exact h
theorem r_yes {A B : Prop} {p : Prop} [Decidable p] (hp : p) (h : A) : if decide p = true then A else B := by rw [if_pos (decide_eq_true hp)]; exact h
theorem r_no {A B : Prop} {p : Prop} [Decidable p] (hp : ¬ p) (h : B) : if decide p = true then A else B := by rw [if_neg (by rw [decide_eq_false hp]; exact Bool.false_ne_true)]; exact h
/-! calls -/
theorem r_cb {r : List V → Hp → VK → Prop} {t : TA} (h : t σ H fun vs H1 => r vs H1 Q) : tCB r t σ H Q := h
theorem r_call {sp : Sp} {E : XK} {t : TA} (h : t σ H fun vs H1 => sp vs H1 Q E) : tCall sp [] E t σ H Q := by
  show t σ H fun vs H1 => sp (vs ++ []) H1 Q E
  have e : (fun vs H1 => sp (vs ++ []) H1 Q E) = fun vs H1 => sp vs H1 Q E := by
    funext vs H1
    rw [List.append_nil]
  rw [e]
  exact h
theorem r_lenT (O : Sta κ I ps H) (h : SqT K I a xs) (k : Q (.int (xs.length : Nat)) H) : rLenA K [.ref a] H Q := ⟨.ref a, xs.length, rfl, .inr ⟨xs, O.sT h, rfl⟩, k⟩
theorem r_lenL (h : SqL K H a xs) (k : Q (.int (xs.length : Nat)) H) : rLenA K [.ref a] H Q := ⟨.ref a, xs.length, rfl, .inl ⟨xs, h, rfl⟩, k⟩
theorem r_max2 {i j : Int} (k : Q (.int (if j > i then j else i)) H) : rMaxA K [.int i, .int j] H Q := .inl ⟨i, j, rfl, k⟩
theorem r_min2 {i j : Int} (k : Q (.int (if j < i then j else i)) H) : rMinA K [.int i, .int j] H Q := .inl ⟨i, j, rfl, k⟩
theorem r_maxL {ns : List Int} (h : SqL K H a (ns.map V.int)) (hn : 0 < ns.length) (k : ∀ m, m ∈ ns → (∀ y, y ∈ ns → y ≤ m) → Q (.int m) H) : rMaxA K [.ref a] H Q := .inr ⟨a, ns, rfl, h, hn, k⟩
theorem r_repr {d : PyData} (O : Sta κ I ps H) (h : Dp K I v d) (h1 : d.showable = true) (h2 : d.depth ≤ 60) (h3 : d.shown.length ≤ sizeLine) (k : Q (.str d.shown) H) : rRepr K [v] H Q := ⟨v, d, rfl, Dp.up O.ex h, h1, h2, h3, k⟩
theorem r_listT (O : Sta κ I ps H) (h : SqL K H a xs ∨ SqT K H a xs) (k : ∀ p H2, Sta κ I ((p, .lst xs) :: ps) H2 → Q (.ref p) H2) : rListA K [.ref a] H Q := ⟨a, xs, rfl, h, O.newP k⟩
theorem r_tupL (O : Sta κ I ps H) (h : SqL K H a xs) (k : ∀ p J H2, Sta κ J ps H2 → Ex I J → TupF J p xs → Q (.ref p) H2) : rTupF K [.ref a] H Q := ⟨a, xs, rfl, .inl ⟨h, O.newT k⟩⟩
theorem r_divmod {i j : Int} (O : Sta κ I ps H) (hc : CDiv i j) (k : ∀ p J H2, Sta κ J ps H2 → Ex I J → SqT K J p [.int (i / j), .int (i % j)] → Q (.ref p) H2) : rDivmod [.int i, .int j] H Q := ⟨i, j, rfl, hc, O.newO fun p J H2 O2 e q => k p J H2 O2 e (SqT.of q)⟩
theorem r_int1 {c : Bool} (k : Q (.int (if c then 1 else 0)) H) : rInt1 [.bl c] H Q := .inr ⟨c, rfl, k⟩
theorem r_bmT {r : V → List V → Hp → VK → Prop} {to : TE} {t : TA} (h : to σ H fun x H1 => (∃ p xs, x = .ref p ∧ TupF H1 p xs) ∧ t σ H1 fun xs H2 => r x xs H2 Q) : tBMT r to t σ H Q := h
theorem r_tyT {A : Prop} (O : Sta κ I ps H) (h : TupF I a xs) (k : A) : (∃ p xs, V.ref a = .ref p ∧ TupF H p xs) ∧ A := ⟨⟨a, xs, rfl, TupF.up O.ex h⟩, k⟩
theorem r_cntT {ns : List Int} {k : Int} (O : Sta κ I ps H) (h : SqT K I a (ns.map V.int)) (q : Q (.int (ns.count k : Nat)) H) : rCntT K (.ref a) [.int k] H Q := ⟨a, ns, k, rfl, rfl, O.sT h, q⟩
theorem r_bm {r : V → List V → Hp → VK → Prop} {to : TE} {t : TA} {T : String} (h : to σ H fun x H1 => tyV K T x H1 ∧ t σ H1 fun xs H2 => r x xs H2 Q) : tBM K T r to t σ H Q := h
theorem r_bm0 {r : V → List V → Hp → VK → Prop} {to : TE} {T : String} (h : to σ H fun x H1 => tyV K T x H1 ∧ r x [] H1 Q) : tBM0 K T r to σ H Q := h
theorem r_tyL {A : Prop} (h : SqL K H a xs) (k : A) : tyV K "list" (.ref a) H ∧ A := ⟨.inl ⟨rfl, xs, h⟩, k⟩
theorem r_app {n : Nat} (O : Sta κ I ps H) (h : ps[n]? = some (l, .lst xs)) (hl : xs.length < sizeLine) (k : ∀ H2, Sta κ I (ps.set n (l, .lst (xs ++ [v]))) H2 → Q .non H2) : rAppend (.ref l) [v] H Q := ⟨l, xs, v, rfl, rfl, O.ix h, hl, k _ (O.set h)⟩
theorem r_pop {n : Nat} (O : Sta κ I ps H) (h : ps[n]? = some (l, .lst xs)) (e : xs[xs.length - 1]? = some v) (k : ∀ H2, Sta κ I (ps.set n (l, .lst xs.dropLast)) H2 → Q v H2) : rPop (.ref l) [] H Q := ⟨l, xs, v, rfl, rfl, O.ix h, e, k _ (O.set h)⟩
/-! loops -/
def LoopR (J : It) (g : TG) (tb : TS) (D : Ends) (σ : St) (H : Hp) : Prop := ∃ W : Nat → Nat → St → Hp → Prop, (∃ m, W 0 m σ H) ∧ ∀ i m σ H, W i m σ H →
  (J.stop i H ∧ D.nx σ H) ∨ (J.go i H ∧ ∃ N : St → Hp → Prop, (∀ σ2 H2, N σ2 H2 → ∃ m2, m2 < m ∧ W (i + 1) m2 σ2 H2) ∧ ∀ x H2, J.yld i H x H2 → g x σ H2 fun σ3 H3 => tb { D with nx := N, ct := N, bk := D.nx } σ3 H3)
theorem r_for {wi : TI} {g : TG} {tb : TS} (h : wi σ H fun J H1 => LoopR J g tb D σ H1) : tFor wi g tb D σ H := h
def CompR (J : It) (g : TG) (tt : TT) (te : TE) (vs : List Nat) (σ : St) (H : Hp) (Q : VK) : Prop := ∀ D, H D = none → ∃ W : Nat → Nat → Hp → Prop, (∃ m, W 0 m (upd H D (.lst []))) ∧ ∀ i m H, W i m H →
  (J.stop i H ∧ Q (.ref D) H) ∨ (J.go i H ∧ ∃ Nx : Hp → Prop, (∀ H2, Nx H2 → ∃ m2, m2 < m ∧ W (i + 1) m2 H2) ∧ ∀ x H2, J.yld i H x H2 → g x (wipe σ vs) H2 fun σ2 H3 => wipe σ2 vs = wipe σ vs ∧ tt σ2 H3 fun b H4 =>
    if b = true then te σ2 H4 fun y H5 => ∃ acc, H5 D = some (.lst acc) ∧ acc.length < sizeLine ∧ Nx (upd H5 D (.lst (acc ++ [y]))) else Nx H4)
theorem r_lc {wi : TI} {g : TG} {tt : TT} {te : TE} {vs : List Nat} (h : wi σ H fun J H1 => CompR J g tt te vs σ H1 Q) : tLc wi g tt te vs σ H Q := h
theorem r_yes0 {R : Bool → Hp → Prop} (h : R true H) : tYes σ H R := h
theorem r_rng1 {ta : TA} {R : It → Hp → Prop} (h : ta σ H fun vs H1 => ∃ j : Int, vs = [.int j] ∧ -(2 ^ 62) ≤ j ∧ j < 2 ^ 62 ∧ R (Itr 0 j.toNat) H1) : iRng1 ta σ H R := h
theorem r_rng1k {P : Int → Prop} {j : Int} (h1 : -(2 ^ 62) ≤ j) (h2 : j < 2 ^ 62) (k : P j) : ∃ i : Int, [V.int j] = [.int i] ∧ -(2 ^ 62) ≤ i ∧ i < 2 ^ 62 ∧ P i := ⟨j, rfl, h1, h2, k⟩
theorem r_rng2 {ta : TA} {R : It → Hp → Prop} (h : ta σ H fun vs H1 => ∃ i j : Int, vs = [.int i, .int j] ∧ (-(2 ^ 62) ≤ i ∧ i < 2 ^ 62 ∧ -(2 ^ 62) ≤ j ∧ j < 2 ^ 62) ∧ R (Itr i (j - i).toNat) H1) : iRng2 ta σ H R := h
theorem r_rng2k {P : Int → Int → Prop} {i j : Int} (h : -(2 ^ 62) ≤ i ∧ i < 2 ^ 62 ∧ -(2 ^ 62) ≤ j ∧ j < 2 ^ 62) (k : P i j) : ∃ i2 j2 : Int, [V.int i, V.int j] = [.int i2, .int j2] ∧ (-(2 ^ 62) ≤ i2 ∧ i2 < 2 ^ 62 ∧ -(2 ^ 62) ≤ j2 ∧ j2 < 2 ^ 62) ∧ P i2 j2 := ⟨i, j, rfl, h, k⟩
theorem r_seqI {te : TE} {R : It → Hp → Prop} (h : te σ H fun x H1 => ∃ a xs, x = .ref a ∧ ((SqL K H1 a xs ∧ R (Itl K a) H1) ∨ (SqT K H1 a xs ∧ R (Itt K a) H1))) : iSeq K te σ H R := h
theorem r_seqT {P1 P2 : Addr → Prop} (O : Sta κ I ps H) (h : SqT K I a xs) (k : P2 a) : ∃ b ys, V.ref a = .ref b ∧ ((SqL K H b ys ∧ P1 b) ∨ (SqT K H b ys ∧ P2 b)) := ⟨a, xs, rfl, .inr ⟨O.sT h, k⟩⟩
theorem r_seqL {P1 P2 : Addr → Prop} (h : SqL K H a xs) (k : P1 a) : ∃ b ys, V.ref a = .ref b ∧ ((SqL K H b ys ∧ P1 b) ∨ (SqT K H b ys ∧ P2 b)) := ⟨a, xs, rfl, .inl ⟨h, k⟩⟩
theorem r_enum {ta : TA} {R : It → Hp → Prop} (h : ta σ H fun vs H1 => ∃ a xs, vs = [.ref a] ∧ ((SqL K H1 a xs ∧ R (Itu xs.length (fun H => SqL K H a xs) (YEnum xs)) H1) ∨ (SqT K H1 a xs ∧ R (Itu xs.length (fun H => SqT K H a xs) (YEnum xs)) H1))) : iEnumS K ta σ H R := h
theorem r_enumT {P1 P2 : Addr → List V → Prop} (O : Sta κ I ps H) (h : SqT K I a xs) (k : P2 a xs) : ∃ b ys, [V.ref a] = [.ref b] ∧ ((SqL K H b ys ∧ P1 b ys) ∨ (SqT K H b ys ∧ P2 b ys)) := ⟨a, xs, rfl, .inr ⟨O.sT h, k⟩⟩
theorem r_enumL {P1 P2 : Addr → List V → Prop} (h : SqL K H a xs) (k : P1 a xs) : ∃ b ys, [V.ref a] = [.ref b] ∧ ((SqL K H b ys ∧ P1 b ys) ∨ (SqT K H b ys ∧ P2 b ys)) := ⟨a, xs, rfl, .inl ⟨h, k⟩⟩
theorem r_zip {ta : TA} {R : It → Hp → Prop} (h : ta σ H fun vs H1 => ∃ a b xs ys, vs = [.ref a, .ref b] ∧
  ((SqL K H1 a xs ∧ SqL K H1 b ys ∧ R (Itu (min xs.length ys.length) (fun H => SqL K H a xs ∧ SqL K H b ys) (YZip xs ys)) H1) ∨
   (SqL K H1 a xs ∧ SqT K H1 b ys ∧ R (Itu (min xs.length ys.length) (fun H => SqL K H a xs ∧ SqT K H b ys) (YZip xs ys)) H1) ∨
   (SqT K H1 a xs ∧ SqL K H1 b ys ∧ R (Itu (min xs.length ys.length) (fun H => SqT K H a xs ∧ SqL K H b ys) (YZip xs ys)) H1) ∨
   (SqT K H1 a xs ∧ SqT K H1 b ys ∧ R (Itu (min xs.length ys.length) (fun H => SqT K H a xs ∧ SqT K H b ys) (YZip xs ys)) H1))) : iZipS K ta σ H R := h
end
end L3

/-! loops and comprehensions by an invariant over the state. -/
namespace L3
open PySem PySem.Spec PyProof.Rows L2
/-- what holds between two turns -/
def LInv (I : Hp) (κ : Nat → Kn) (Pv : Nat → St → Hp → PL → Prop) (i : Nat) (σ : St) (H : Hp) : Prop := ∃ J ps, Ex I J ∧ Sta (κ i) J ps H ∧ Pv i σ J ps
def CInv (I : Hp) (κ : Nat → Kn) (Pv : Nat → Hp → PL → List V → Prop) (D : Addr) (i : Nat) (H : Hp) : Prop := ∃ J ps acc, Ex I J ∧ Sta (κ i) J ((D, .lst acc) :: ps) H ∧ Pv i J ps acc
section
variable {K : PySem.W.Frag} {κ : Nat → Kn} {I J H : Hp} {ps : PL} {a b : Addr} {xs ys : List V} {Q : VK} {σ : St} {D : Ends} {g : TG} {tb : TS} {tt : TT} {te : TE} {vs : List Nat}
theorem r_linv {Pv : Nat → St → Hp → PL → Prop} {i : Nat} (e : Ex I J) (O : Sta (κ i) J ps H) (h : Pv i σ J ps) : LInv I κ Pv i σ H := ⟨J, ps, e, O, h⟩
theorem loop_rng {lo : Int} {n : Nat} (κ : Nat → Kn) (Pv : Nat → St → Hp → PL → Prop) (O : Sta (κ 0) I ps H) (h0 : Pv 0 σ I ps)
    (hs : ∀ i σ1 J ps1 H1, i < n → Ex I J → Sta (κ i) J ps1 H1 → Pv i σ1 J ps1 → g (.int (lo + (i : Nat))) σ1 H1 fun σ2 H2 => tb { D with nx := LInv I κ Pv (i + 1), ct := LInv I κ Pv (i + 1), bk := D.nx } σ2 H2)
    (hd : ∀ σ1 J ps1 H1, Ex I J → Sta (κ n) J ps1 H1 → Pv n σ1 J ps1 → D.nx σ1 H1) : LoopR (Itr lo n) g tb D σ H :=
  for_range (LInv I κ Pv) ⟨I, ps, Ex.refl I, O, h0⟩ (fun i σ1 H1 hi ⟨J, ps1, e, O1, p⟩ => hs i σ1 J ps1 H1 hi e O1 p) fun σ1 H1 ⟨J, ps1, e, O1, p⟩ => hd σ1 J ps1 H1 e O1 p
theorem loop_rng0 {n : Nat} (κ : Nat → Kn) (Pv : Nat → St → Hp → PL → Prop) (O : Sta (κ 0) I ps H) (h0 : Pv 0 σ I ps)
    (hs : ∀ i σ1 J ps1 H1, i < n → Ex I J → Sta (κ i) J ps1 H1 → Pv i σ1 J ps1 → g (.int (i : Nat)) σ1 H1 fun σ2 H2 => tb { D with nx := LInv I κ Pv (i + 1), ct := LInv I κ Pv (i + 1), bk := D.nx } σ2 H2)
    (hd : ∀ σ1 J ps1 H1, Ex I J → Sta (κ n) J ps1 H1 → Pv n σ1 J ps1 → D.nx σ1 H1) : LoopR (Itr 0 n) g tb D σ H :=
  loop_rng κ Pv O h0 (fun i σ1 J ps1 H1 hi e O1 p => by rw [Int.zero_add]; exact hs i σ1 J ps1 H1 hi e O1 p) hd
theorem loop_seqT (κ : Nat → Kn) (Pv : Nat → St → Hp → PL → Prop) (O : Sta (κ 0) I ps H) (hx : SqT K I a xs) (h0 : Pv 0 σ I ps)
    (hs : ∀ i x σ1 J ps1 H1, xs[i]? = some x → Ex I J → Sta (κ i) J ps1 H1 → Pv i σ1 J ps1 → g x σ1 H1 fun σ2 H2 => tb { D with nx := LInv I κ Pv (i + 1), ct := LInv I κ Pv (i + 1), bk := D.nx } σ2 H2)
    (hd : ∀ σ1 J ps1 H1, Ex I J → Sta (κ xs.length) J ps1 H1 → Pv xs.length σ1 J ps1 → D.nx σ1 H1) : LoopR (Itt K a) g tb D σ H :=
  for_tup (LInv I κ Pv) ⟨I, ps, Ex.refl I, O, h0⟩ (fun i σ1 H1 hi ⟨J, ps1, e, O1, p⟩ => O1.sT (SqT.up e hx)) (fun i x σ1 H1 hi ⟨J, ps1, e, O1, p⟩ => hs i x σ1 J ps1 H1 hi e O1 p) fun σ1 H1 ⟨J, ps1, e, O1, p⟩ => hd σ1 J ps1 H1 e O1 p
theorem loop_seqL (κ : Nat → Kn) (Pv : Nat → St → Hp → PL → Prop) (O : Sta (κ 0) I ps H) (hG : ∀ i σ1 J ps1 H1, Ex I J → Sta (κ i) J ps1 H1 → Pv i σ1 J ps1 → SqL K H1 a xs) (h0 : Pv 0 σ I ps)
    (hs : ∀ i x σ1 J ps1 H1, xs[i]? = some x → Ex I J → Sta (κ i) J ps1 H1 → Pv i σ1 J ps1 → g x σ1 H1 fun σ2 H2 => tb { D with nx := LInv I κ Pv (i + 1), ct := LInv I κ Pv (i + 1), bk := D.nx } σ2 H2)
    (hd : ∀ σ1 J ps1 H1, Ex I J → Sta (κ xs.length) J ps1 H1 → Pv xs.length σ1 J ps1 → D.nx σ1 H1) : LoopR (Itl K a) g tb D σ H :=
  for_list (LInv I κ Pv) ⟨I, ps, Ex.refl I, O, h0⟩ (fun i σ1 H1 hi ⟨J, ps1, e, O1, p⟩ => hG i σ1 J ps1 H1 e O1 p) (fun i x σ1 H1 hi ⟨J, ps1, e, O1, p⟩ => hs i x σ1 J ps1 H1 hi e O1 p) fun σ1 H1 ⟨J, ps1, e, O1, p⟩ => hd σ1 J ps1 H1 e O1 p
theorem walk_u {n : Nat} {G : Hp → Prop} {Y : Nat → List V → Prop} : Walk (Itu n G Y) n G fun i H x H2 => ∃ T us, x = .ref T ∧ H T = none ∧ H2 = upd H T (.tup us) ∧ Y i us where
  goes := fun i H hi g => ⟨hi, g⟩
  stops := fun H g => ⟨rfl, g⟩
  yields := fun i H x H2 hi g y => y
theorem loop_u {n : Nat} {G : Hp → Prop} {Y : Nat → List V → Prop} {gs : TGs} {m : Nat} (κ : Nat → Kn) (Pv : Nat → St → Hp → PL → Prop) (O : Sta (κ 0) I ps H) (hG : ∀ i σ1 J ps1 H1, Ex I J → Sta (κ i) J ps1 H1 → Pv i σ1 J ps1 → G H1) (hY : ∀ i us, Y i us → us.length = m) (h0 : Pv 0 σ I ps)
    (hs : ∀ i us σ1 J ps1 H1, i < n → Y i us → Ex I J → Sta (κ i) J ps1 H1 → Pv i σ1 J ps1 → gs us σ1 H1 fun σ2 H2 => tb { D with nx := LInv I κ Pv (i + 1), ct := LInv I κ Pv (i + 1), bk := D.nx } σ2 H2)
    (hd : ∀ σ1 J ps1 H1, Ex I J → Sta (κ n) J ps1 H1 → Pv n σ1 J ps1 → D.nx σ1 H1) : LoopR (Itu n G Y) (gTup K m gs) tb D σ H := by
  refine for_it walk_u (LInv I κ Pv) ⟨I, ps, Ex.refl I, O, h0⟩ (fun i σ1 H1 _ ⟨J, ps1, e, O1, p⟩ => hG i σ1 J ps1 H1 e O1 p) ?_ fun σ1 H1 ⟨J, ps1, e, O1, p⟩ => hd σ1 J ps1 H1 e O1 p
  rintro i x σ1 H1 H2 hi ⟨J, ps1, e, O1, p⟩ ⟨T, us, rfl, hT, rfl, y⟩
  exact ⟨T, us, rfl, SqT.of upd_same, hY i us y, hs i us σ1 J ps1 _ hi y e (O1.skip hT) p⟩
theorem loop_enumT {gs : TGs} (κ : Nat → Kn) (Pv : Nat → St → Hp → PL → Prop) (O : Sta (κ 0) I ps H) (hx : SqT K I a xs) (h0 : Pv 0 σ I ps)
    (hs : ∀ i x σ1 J ps1 H1, xs[i]? = some x → Ex I J → Sta (κ i) J ps1 H1 → Pv i σ1 J ps1 → gs [.int (i : Nat), x] σ1 H1 fun σ2 H2 => tb { D with nx := LInv I κ Pv (i + 1), ct := LInv I κ Pv (i + 1), bk := D.nx } σ2 H2)
    (hd : ∀ σ1 J ps1 H1, Ex I J → Sta (κ xs.length) J ps1 H1 → Pv xs.length σ1 J ps1 → D.nx σ1 H1) : LoopR (Itu xs.length (fun H => SqT K H a xs) (YEnum xs)) (gTup K 2 gs) tb D σ H :=
  loop_u κ Pv O (fun i σ1 J ps1 H1 e O1 p => O1.sT (SqT.up e hx)) (fun i us ⟨x, _, e⟩ => by rw [e]; rfl) h0 (fun i us σ1 J ps1 H1 hi ⟨x, hx, eu⟩ e O1 p => by rw [eu]; exact hs i x σ1 J ps1 H1 hx e O1 p) hd
theorem loop_enumL {gs : TGs} (κ : Nat → Kn) (Pv : Nat → St → Hp → PL → Prop) (O : Sta (κ 0) I ps H) (hG : ∀ i σ1 J ps1 H1, Ex I J → Sta (κ i) J ps1 H1 → Pv i σ1 J ps1 → SqL K H1 a xs) (h0 : Pv 0 σ I ps)
    (hs : ∀ i x σ1 J ps1 H1, xs[i]? = some x → Ex I J → Sta (κ i) J ps1 H1 → Pv i σ1 J ps1 → gs [.int (i : Nat), x] σ1 H1 fun σ2 H2 => tb { D with nx := LInv I κ Pv (i + 1), ct := LInv I κ Pv (i + 1), bk := D.nx } σ2 H2)
    (hd : ∀ σ1 J ps1 H1, Ex I J → Sta (κ xs.length) J ps1 H1 → Pv xs.length σ1 J ps1 → D.nx σ1 H1) : LoopR (Itu xs.length (fun H => SqL K H a xs) (YEnum xs)) (gTup K 2 gs) tb D σ H :=
  loop_u κ Pv O hG (fun i us ⟨x, _, e⟩ => by rw [e]; rfl) h0 (fun i us σ1 J ps1 H1 hi ⟨x, hx, eu⟩ e O1 p => by rw [eu]; exact hs i x σ1 J ps1 H1 hx e O1 p) hd
/-! comprehensions -/
/-- what a turn of a comprehension is to reach -/
def CTurn (I : Hp) (κ : Nat → Kn) (Pv : Nat → Hp → PL → List V → Prop) (tt : TT) (te : TE) (vs : List Nat) (σ : St) (Dl : Addr) (i : Nat) (σ2 : St) (H : Hp) : Prop := wipe σ2 vs = wipe σ vs ∧ tt σ2 H fun c H4 =>
  if c = true then te σ2 H4 fun y H5 => ∃ acc, H5 Dl = some (.lst acc) ∧ acc.length < sizeLine ∧ CInv I κ Pv Dl (i + 1) (upd H5 Dl (.lst (acc ++ [y]))) else CInv I κ Pv Dl (i + 1) H4
theorem r_cturn {Pv : Nat → Hp → PL → List V → Prop} {Dl : Addr} {i : Nat} {σ2 : St} (hw : wipe σ2 vs = wipe σ vs) (h : tt σ2 H fun c H4 =>
  if c = true then te σ2 H4 fun y H5 => ∃ acc, H5 Dl = some (.lst acc) ∧ acc.length < sizeLine ∧ CInv I κ Pv Dl (i + 1) (upd H5 Dl (.lst (acc ++ [y]))) else CInv I κ Pv Dl (i + 1) H4) : CTurn I κ Pv tt te vs σ Dl i σ2 H := ⟨hw, h⟩
theorem r_cadd {Pv : Nat → Hp → PL → List V → Prop} {Dl : Addr} {i : Nat} {acc : List V} {y : V} (e : Ex I J) (O : Sta (κ i) J ((Dl, .lst acc) :: ps) H) (hl : acc.length < sizeLine) (h : Pv i J ps (acc ++ [y])) :
    ∃ acc, H Dl = some (.lst acc) ∧ acc.length < sizeLine ∧ CInv I κ Pv Dl i (upd H Dl (.lst (acc ++ [y]))) := ⟨acc, O.ix (i := 0) rfl, hl, J, ps, acc ++ [y], e, O.set (i := 0) rfl, h⟩
theorem r_cnone {Pv : Nat → Hp → PL → List V → Prop} {Dl : Addr} {i : Nat} {acc : List V} (e : Ex I J) (O : Sta (κ i) J ((Dl, .lst acc) :: ps) H) (h : Pv i J ps acc) : CInv I κ Pv Dl i H := ⟨J, ps, acc, e, O, h⟩
theorem comp_rng {lo : Int} {n : Nat} (κ : Nat → Kn) (Pv : Nat → Hp → PL → List V → Prop) (O : Sta (κ 0) I ps H) (h0 : Pv 0 I ps [])
    (hs : ∀ Dl i J ps1 acc H1, i < n → Ex I J → Sta (κ i) J ((Dl, .lst acc) :: ps1) H1 → Pv i J ps1 acc → g (.int (lo + (i : Nat))) (wipe σ vs) H1 (CTurn I κ Pv tt te vs σ Dl i))
    (hd : ∀ p J ps1 acc H1, Ex I J → Sta (κ n) J ((p, .lst acc) :: ps1) H1 → Pv n J ps1 acc → Q (.ref p) H1) : CompR (Itr lo n) g tt te vs σ H Q := fun Dl hD =>
  lc_range (Qd := fun H1 => Q (.ref Dl) H1) (CInv I κ Pv Dl) ⟨I, ps, [], Ex.refl I, O.own hD, h0⟩ (fun i H1 hi ⟨J, ps1, acc, e, O1, p⟩ => hs Dl i J ps1 acc H1 hi e O1 p) fun H1 ⟨J, ps1, acc, e, O1, p⟩ => hd Dl J ps1 acc H1 e O1 p
theorem comp_rng0 {n : Nat} (κ : Nat → Kn) (Pv : Nat → Hp → PL → List V → Prop) (O : Sta (κ 0) I ps H) (h0 : Pv 0 I ps [])
    (hs : ∀ Dl i J ps1 acc H1, i < n → Ex I J → Sta (κ i) J ((Dl, .lst acc) :: ps1) H1 → Pv i J ps1 acc → g (.int (i : Nat)) (wipe σ vs) H1 (CTurn I κ Pv tt te vs σ Dl i))
    (hd : ∀ p J ps1 acc H1, Ex I J → Sta (κ n) J ((p, .lst acc) :: ps1) H1 → Pv n J ps1 acc → Q (.ref p) H1) : CompR (Itr 0 n) g tt te vs σ H Q :=
  comp_rng κ Pv O h0 (fun Dl i J ps1 acc H1 hi e O1 p => by rw [Int.zero_add]; exact hs Dl i J ps1 acc H1 hi e O1 p) hd
theorem comp_seqT (κ : Nat → Kn) (Pv : Nat → Hp → PL → List V → Prop) (O : Sta (κ 0) I ps H) (hx : SqT K I a xs) (h0 : Pv 0 I ps [])
    (hs : ∀ Dl i x J ps1 acc H1, xs[i]? = some x → Ex I J → Sta (κ i) J ((Dl, .lst acc) :: ps1) H1 → Pv i J ps1 acc → g x (wipe σ vs) H1 (CTurn I κ Pv tt te vs σ Dl i))
    (hd : ∀ p J ps1 acc H1, Ex I J → Sta (κ xs.length) J ((p, .lst acc) :: ps1) H1 → Pv xs.length J ps1 acc → Q (.ref p) H1) : CompR (Itt K a) g tt te vs σ H Q := fun Dl hD =>
  lc_tup (Qd := fun H1 => Q (.ref Dl) H1) (CInv I κ Pv Dl) ⟨I, ps, [], Ex.refl I, O.own hD, h0⟩ (fun i H1 _ ⟨J, ps1, acc, e, O1, p⟩ => O1.sT (SqT.up e hx)) (fun i x H1 hi ⟨J, ps1, acc, e, O1, p⟩ => hs Dl i x J ps1 acc H1 hi e O1 p) fun H1 ⟨J, ps1, acc, e, O1, p⟩ => hd Dl J ps1 acc H1 e O1 p
theorem comp_seqL (κ : Nat → Kn) (Pv : Nat → Hp → PL → List V → Prop) (O : Sta (κ 0) I ps H) (hG : ∀ Dl i J ps1 acc H1, Ex I J → Sta (κ i) J ((Dl, .lst acc) :: ps1) H1 → Pv i J ps1 acc → SqL K H1 a xs) (h0 : Pv 0 I ps [])
    (hs : ∀ Dl i x J ps1 acc H1, xs[i]? = some x → Ex I J → Sta (κ i) J ((Dl, .lst acc) :: ps1) H1 → Pv i J ps1 acc → g x (wipe σ vs) H1 (CTurn I κ Pv tt te vs σ Dl i))
    (hd : ∀ p J ps1 acc H1, Ex I J → Sta (κ xs.length) J ((p, .lst acc) :: ps1) H1 → Pv xs.length J ps1 acc → Q (.ref p) H1) : CompR (Itl K a) g tt te vs σ H Q := fun Dl hD =>
  lc_list (Qd := fun H1 => Q (.ref Dl) H1) (CInv I κ Pv Dl) ⟨I, ps, [], Ex.refl I, O.own hD, h0⟩ (fun i H1 _ ⟨J, ps1, acc, e, O1, p⟩ => hG Dl i J ps1 acc H1 e O1 p) (fun i x H1 hi ⟨J, ps1, acc, e, O1, p⟩ => hs Dl i x J ps1 acc H1 hi e O1 p) fun H1 ⟨J, ps1, acc, e, O1, p⟩ => hd Dl J ps1 acc H1 e O1 p
theorem comp_u {n : Nat} {G : Hp → Prop} {Y : Nat → List V → Prop} {gs : TGs} {m : Nat} (κ : Nat → Kn) (Pv : Nat → Hp → PL → List V → Prop) (O : Sta (κ 0) I ps H) (hG : ∀ Dl i J ps1 acc H1, Ex I J → Sta (κ i) J ((Dl, .lst acc) :: ps1) H1 → Pv i J ps1 acc → G H1) (hY : ∀ i us, Y i us → us.length = m) (h0 : Pv 0 I ps [])
    (hs : ∀ Dl i us J ps1 acc H1, i < n → Y i us → Ex I J → Sta (κ i) J ((Dl, .lst acc) :: ps1) H1 → Pv i J ps1 acc → gs us (wipe σ vs) H1 (CTurn I κ Pv tt te vs σ Dl i))
    (hd : ∀ p J ps1 acc H1, Ex I J → Sta (κ n) J ((p, .lst acc) :: ps1) H1 → Pv n J ps1 acc → Q (.ref p) H1) : CompR (Itu n G Y) (gTup K m gs) tt te vs σ H Q := fun Dl hD => by
  refine lc_it (Qd := fun H1 => Q (.ref Dl) H1) walk_u (CInv I κ Pv Dl) ⟨I, ps, [], Ex.refl I, O.own hD, h0⟩ (fun i H1 _ ⟨J, ps1, acc, e, O1, p⟩ => hG Dl i J ps1 acc H1 e O1 p) ?_ fun H1 ⟨J, ps1, acc, e, O1, p⟩ => hd Dl J ps1 acc H1 e O1 p
  rintro i x H1 H2 hi ⟨J, ps1, acc, e, O1, p⟩ ⟨T, us, rfl, hT, rfl, y⟩
  exact ⟨T, us, rfl, SqT.of upd_same, hY i us y, hs Dl i us J ps1 acc _ hi y e (O1.skip hT) p⟩
theorem comp_enumT {gs : TGs} (κ : Nat → Kn) (Pv : Nat → Hp → PL → List V → Prop) (O : Sta (κ 0) I ps H) (hx : SqT K I a xs) (h0 : Pv 0 I ps [])
    (hs : ∀ Dl i x J ps1 acc H1, xs[i]? = some x → Ex I J → Sta (κ i) J ((Dl, .lst acc) :: ps1) H1 → Pv i J ps1 acc → gs [.int (i : Nat), x] (wipe σ vs) H1 (CTurn I κ Pv tt te vs σ Dl i))
    (hd : ∀ p J ps1 acc H1, Ex I J → Sta (κ xs.length) J ((p, .lst acc) :: ps1) H1 → Pv xs.length J ps1 acc → Q (.ref p) H1) : CompR (Itu xs.length (fun H => SqT K H a xs) (YEnum xs)) (gTup K 2 gs) tt te vs σ H Q :=
  comp_u κ Pv O (fun Dl i J ps1 acc H1 e O1 p => O1.sT (SqT.up e hx)) (fun i us ⟨x, _, e⟩ => by rw [e]; rfl) h0 (fun Dl i us J ps1 acc H1 hi ⟨x, hx, eu⟩ e O1 p => by rw [eu]; exact hs Dl i x J ps1 acc H1 hx e O1 p) hd
/-- zip of two lists that stay as they are -/
theorem comp_zipL {gs : TGs} (κ : Nat → Kn) (Pv : Nat → Hp → PL → List V → Prop) (O : Sta (κ 0) I ps H) (ha : SqL K I a xs) (hb : SqL K I b ys) (h0 : Pv 0 I ps [])
    (hs : ∀ Dl i x y J ps1 acc H1, xs[i]? = some x → ys[i]? = some y → Ex I J → Sta (κ i) J ((Dl, .lst acc) :: ps1) H1 → Pv i J ps1 acc → gs [x, y] (wipe σ vs) H1 (CTurn I κ Pv tt te vs σ Dl i))
    (hd : ∀ p J ps1 acc H1, Ex I J → Sta (κ (min xs.length ys.length)) J ((p, .lst acc) :: ps1) H1 → Pv (min xs.length ys.length) J ps1 acc → Q (.ref p) H1) :
    CompR (Itu (min xs.length ys.length) (fun H => SqL K H a xs ∧ SqL K H b ys) (YZip xs ys)) (gTup K 2 gs) tt te vs σ H Q :=
  comp_u κ Pv O (fun Dl i J ps1 acc H1 e O1 p => ⟨O1.sL (SqL.up e ha), O1.sL (SqL.up e hb)⟩) (fun i us ⟨x, y, _, _, e⟩ => by rw [e]; rfl) h0 (fun Dl i us J ps1 acc H1 hi ⟨x, y, hx, hy, eu⟩ e O1 p => by rw [eu]; exact hs Dl i x y J ps1 acc H1 hx hy e O1 p) hd
theorem r_zipLL {P1 P2 P3 P4 : Addr → Addr → List V → List V → Prop} (ha : SqL K H a xs) (hb : SqL K H b ys) (k : P1 a b xs ys) : ∃ a2 b2 xs ys, [V.ref a, .ref b] = [.ref a2, .ref b2] ∧
  ((SqL K H a2 xs ∧ SqL K H b2 ys ∧ P1 a2 b2 xs ys) ∨ (SqL K H a2 xs ∧ SqT K H b2 ys ∧ P2 a2 b2 xs ys) ∨ (SqT K H a2 xs ∧ SqL K H b2 ys ∧ P3 a2 b2 xs ys) ∨ (SqT K H a2 xs ∧ SqT K H b2 ys ∧ P4 a2 b2 xs ys)) := ⟨a, b, xs, ys, rfl, .inl ⟨ha, hb, k⟩⟩
end
end L3

/-! data that may be shown and compared; further steps. -/
namespace L3
open PySem PySem.Spec PyProof.Rows L2
/-- data of depth at most k, its ints of moderate size, its texts plain -/
def good : Nat → PyData → Prop
  | _, .none => True
  | _, .bool _ => True
  | _, .int i => i.natAbs.log2 < 1920
  | _, .str x => PyData.strOk x = true ∧ ∀ c ∈ x.cps.toList, c < 16 ^ 8
  | 0, .list _ => False
  | 0, .tuple _ => False
  | k + 1, .list xs => ∀ x ∈ xs, good k x
  | k + 1, .tuple xs => ∀ x ∈ xs, good k x
  | _, .dict _ => False
mutual
/-- a bound for the text -/
def nz : PyData → Nat
  | .none => 4
  | .bool _ => 5
  | .int _ => 1921
  | .str x => 10 * x.length + 4
  | .list xs => 3 + nzAll xs
  | .tuple xs => 3 + nzAll xs
  | .dict _ => 0
def nzAll : List PyData → Nat
  | [] => 0
  | x :: xs => nz x + 2 + nzAll xs
end
theorem nzAll_le {c : Nat} : ∀ {xs : List PyData}, (∀ x ∈ xs, nz x ≤ c) → nzAll xs ≤ xs.length * (c + 2)
  | [], _ => Nat.zero_le _
  | x :: xs, h => by
    have h1 := h x List.mem_cons_self
    have h2 := nzAll_le (xs := xs) fun y hy => h y (List.mem_cons_of_mem _ hy)
    have e : (x :: xs).length * (c + 2) = xs.length * (c + 2) + (c + 2) := by rw [List.length_cons, Nat.succ_mul]
    simp only [nzAll]
    omega
theorem log2_small {i : Int} (h : i.natAbs < 2 ^ 1919) : i.natAbs.log2 < 1920 := by
  by_cases h0 : i.natAbs = 0
  · rw [h0]; decide
  · exact Nat.lt_succ_of_lt ((Nat.log2_lt h0).mpr h)
theorem good_int {k : Nat} {i : Int} (h1 : -1000000000000000000000000 < i) (h2 : i < 1000000000000000000000000) : good k (.int i) := by
  have : i.natAbs.log2 < 1920 := log2_small (Nat.lt_trans (show i.natAbs < 1000000000000000000000000 by omega) (by decide))
  cases k <;> exact this
mutual
theorem good_show : ∀ (k : Nat) (d : PyData), good k d → d.showable = true
  | _, .none, _ => by simp only [PyData.showable]
  | _, .bool _, _ => by simp only [PyData.showable]
  | 0, .int i, h => by simpa [PyData.showable] using (show i.natAbs.log2 < 1920 from h)
  | k + 1, .int i, h => by simpa [PyData.showable] using (show i.natAbs.log2 < 1920 from h)
  | _, .str _, _ => by simp only [PyData.showable]
  | k + 1, .list xs, h => by simp only [PyData.showable]; exact goods_show k xs h
  | k + 1, .tuple xs, h => by simp only [PyData.showable]; exact goods_show k xs h
  | 0, .list _, h => h.elim
  | 0, .tuple _, h => h.elim
  | 0, .dict _, h => h.elim
  | k + 1, .dict _, h => h.elim
theorem goods_show : ∀ (k : Nat) (ds : List PyData), (∀ x ∈ ds, good k x) → PyData.showableAll ds = true
  | _, [], _ => by simp only [PyData.showableAll]
  | k, d :: ds, h => by simp only [PyData.showableAll, good_show k d (h d List.mem_cons_self), goods_show k ds fun x hx => h x (List.mem_cons_of_mem _ hx), Bool.and_self]
end
mutual
theorem good_lay : ∀ (k : Nat) (d : PyData), good k d → d.canLay0 = true
  | _, .none, _ => by simp only [PyData.canLay0]
  | _, .bool _, _ => by simp only [PyData.canLay0]
  | _, .int i, _ => by simp only [PyData.canLay0]
  | 0, .str _, h => by simp only [PyData.canLay0]; exact h.1
  | k + 1, .str _, h => by simp only [PyData.canLay0]; exact h.1
  | k + 1, .list xs, h => by simp only [PyData.canLay0]; exact goods_lay k xs h
  | k + 1, .tuple xs, h => by simp only [PyData.canLay0]; exact goods_lay k xs h
  | 0, .list _, h => h.elim
  | 0, .tuple _, h => h.elim
  | 0, .dict _, h => h.elim
  | k + 1, .dict _, h => h.elim
theorem goods_lay : ∀ (k : Nat) (ds : List PyData), (∀ x ∈ ds, good k x) → PyData.canLayAll0 ds = true
  | _, [], _ => by simp only [PyData.canLayAll0]
  | k, d :: ds, h => by simp only [PyData.canLayAll0, good_lay k d (h d List.mem_cons_self), goods_lay k ds fun x hx => h x (List.mem_cons_of_mem _ hx), Bool.and_self]
end
mutual
theorem good_depth : ∀ (k : Nat) (d : PyData), good k d → d.depth ≤ k
  | _, .none, _ => by simp only [PyData.depth]; omega
  | _, .bool _, _ => by simp only [PyData.depth]; omega
  | _, .int i, _ => by simp only [PyData.depth]; omega
  | _, .str _, _ => by simp only [PyData.depth]; omega
  | k + 1, .list xs, h => by simp only [PyData.depth]; have := goods_depth k xs h; omega
  | k + 1, .tuple xs, h => by simp only [PyData.depth]; have := goods_depth k xs h; omega
  | 0, .list _, h => h.elim
  | 0, .tuple _, h => h.elim
  | 0, .dict _, h => h.elim
  | k + 1, .dict _, h => h.elim
theorem goods_depth : ∀ (k : Nat) (ds : List PyData), (∀ x ∈ ds, good k x) → PyData.depthAll ds ≤ k
  | _, [], _ => by simp only [PyData.depthAll]; omega
  | k, d :: ds, h => by
    simp only [PyData.depthAll]
    have h1 := good_depth k d (h d List.mem_cons_self)
    have h2 := goods_depth k ds fun x hx => h x (List.mem_cons_of_mem _ hx)
    omega
end
mutual
theorem good_nz : ∀ (k : Nat) (d : PyData), good k d → d.shown.length ≤ nz d
  | _, .none, _ => by simp only [PyData.shown, nz]; decide
  | _, .bool b, _ => by cases b <;> simp only [PyData.shown, nz] <;> decide
  | 0, .int i, h => by simp only [PyData.shown, nz]; exact PyProof.Rows.int_text_len_1921 h
  | k + 1, .int i, h => by simp only [PyData.shown, nz]; exact PyProof.Rows.int_text_len_1921 h
  | 0, .str x, h => by simp only [PyData.shown, nz]; exact Nat.le_trans (StrLaws.reprText_len x h.2) (Nat.add_le_add_left (by decide) _)
  | k + 1, .str x, h => by simp only [PyData.shown, nz]; exact Nat.le_trans (StrLaws.reprText_len x h.2) (Nat.add_le_add_left (by decide) _)
  | k + 1, .list xs, h => by
    simp only [PyData.shown, nz]
    have h1 := listText_len_le (PyData.shownAll xs)
    have h2 := goods_nz k xs h
    omega
  | k + 1, .tuple xs, h => by
    simp only [PyData.shown, nz]
    have h1 := tupleText_len_le (PyData.shownAll xs)
    have h2 := goods_nz k xs h
    omega
  | 0, .list _, h => h.elim
  | 0, .tuple _, h => h.elim
  | 0, .dict _, h => h.elim
  | k + 1, .dict _, h => h.elim
theorem goods_nz : ∀ (k : Nat) (ds : List PyData), (∀ x ∈ ds, good k x) → ((PyData.shownAll ds).map (·.length)).sum + 2 * (PyData.shownAll ds).length ≤ nzAll ds
  | _, [], _ => by simp only [PyData.shownAll, nzAll]; decide
  | k, d :: ds, h => by
    simp only [PyData.shownAll, nzAll, List.map_cons, List.sum_cons, List.length_cons]
    have h1 := good_nz k d (h d List.mem_cons_self)
    have h2 := goods_nz k ds fun x hx => h x (List.mem_cons_of_mem _ hx)
    omega
end
theorem good_shaped {k : Nat} {d : PyData} (h : good k d) (hk : k ≤ 64) : SeqAt.shaped d = true := by
  unfold SeqAt.shaped
  rw [good_lay k d h, decide_eq_true (Nat.le_trans (good_depth k d h) hk)]
  rfl
theorem good_tup {k : Nat} {xs : List PyData} (h : ∀ x ∈ xs, good k x) : good (k + 1) (.tuple xs) := h
theorem good_lst {k : Nat} {xs : List PyData} (h : ∀ x ∈ xs, good k x) : good (k + 1) (.list xs) := h
theorem goods_nil {k : Nat} : ∀ x ∈ ([] : List PyData), good k x := fun _ h => absurd h List.not_mem_nil
theorem goods_cons {k : Nat} {x : PyData} {xs : List PyData} (h : good k x) (hs : ∀ y ∈ xs, good k y) : ∀ y ∈ x :: xs, good k y := fun y hy => by
  rcases List.mem_cons.mp hy with rfl | hy
  · exact h
  · exact hs y hy
theorem goods_ints {k : Nat} {ns : List Int} (h : ∀ n ∈ ns, -1000000000000000000000000 < n ∧ n < 1000000000000000000000000) : ∀ y ∈ ns.map PyData.int, good k y := fun y hy => by
  obtain ⟨n, hn, rfl⟩ := List.mem_map.mp hy
  exact good_int (h n hn).1 (h n hn).2
theorem goods_rep {k n : Nat} {x : PyData} (h : good k x) : ∀ y ∈ List.replicate n x, good k y := fun y hy => by
  rw [(List.mem_replicate.mp hy).2]
  exact h
section
variable {K : PySem.W.Frag} {κ : Kn} {I J H H1 H2 : Hp} {ps qs : PL} {a p l b : Addr} {xs ys : List V} {o u : HO} {v x y : V} {Q : VK} {σ σ2 : St} {D : Ends} {i j : Nat}
theorem r_reprG {k : Nat} {d : PyData} (O : Sta κ I ps H) (h : Dp K I v d) (hg : good k d) (hk : k ≤ 60) (hz : nz d ≤ 16000000) (q : Q (.str d.shown) H) : rRepr K [v] H Q :=
  r_repr O h (good_show k d hg) (Nat.le_trans (good_depth k d hg) hk) (Nat.le_trans (Nat.le_trans (good_nz k d hg) hz) (by decide)) q
theorem r_eqG {k k2 : Nat} {d e : PyData} (O : Sta κ I ps H) (hd : Dp K I x d) (he : Dp K I y e) (h1 : good k d) (h2 : good k2 e) (hk : k ≤ 60) (hk2 : k2 ≤ 60) (q : Q (.bl (PyData.eqv d e)) H) : rEqA K x y H Q := r_eqD O hd he (good_shaped h1 (by omega)) (good_shaped h2 (by omega)) q
theorem r_neG {k k2 : Nat} {d e : PyData} (O : Sta κ I ps H) (hd : Dp K I x d) (he : Dp K I y e) (h1 : good k d) (h2 : good k2 e) (hk : k ≤ 60) (hk2 : k2 ≤ 60) (q : Q (.bl (!PyData.eqv d e)) H) : rNeA K x y H Q := r_neD O hd he (good_shaped h1 (by omega)) (good_shaped h2 (by omega)) q
theorem r_neStr {s1 s2 : Str} (e : s1 = s2) (q : Q (.bl false) H) : rNeA K (.str s1) (.str s2) H Q := by
  subst e
  refine r_neS rfl ?_
  rw [decide_eq_true rfl]
  exact q
theorem r_eqStr {s1 s2 : Str} (e : s1 = s2) (q : Q (.bl true) H) : rEqA K (.str s1) (.str s2) H Q := by
  subst e
  refine r_eqS rfl ?_
  rw [decide_eq_true rfl]
  exact q
/-- a list of ints beside the empty list -/
theorem shaped_intsL (ns : List Int) : SeqAt.shaped (.list (ns.map .int)) = true := by
  have h : ∀ ns : List Int, PyData.canLayAll0 (ns.map .int) = true ∧ PyData.depthAll (ns.map .int) = 0 := by
    intro ns
    induction ns with
    | nil => exact ⟨by simp only [List.map_nil, PyData.canLayAll0], by simp only [List.map_nil, PyData.depthAll]⟩
    | cons n ns ih => exact ⟨by simp only [List.map_cons, PyData.canLayAll0, PyData.canLay0, ih.1, Bool.and_self], by simp only [List.map_cons, PyData.depthAll, PyData.depth, ih.2, Nat.max_self]⟩
  unfold SeqAt.shaped
  simp only [PyData.canLay0, PyData.depth, (h ns).1, (h ns).2]
  rfl
theorem eqv_nil (ds : List PyData) : PyData.eqv (.list ds) (.list []) = decide (ds = []) := by
  cases ds with
  | nil => simp [PyData.eqv, PyData.eqvAll]
  | cons d ds => simp [PyData.eqv, PyData.eqvAll]
theorem r_neNilI {ns : List Int} (ha : SqL K H a (ns.map V.int)) (hb : SqL K H b []) (q : Q (.bl (!decide (ns = []))) H) : rNeA K (.ref a) (.ref b) H Q := by
  refine .inr ⟨.list (ns.map .int), .list [], .lst ha (dpAll_ints ns), .lst hb .nil, shaped_intsL ns, shaped_intsL [], ?_⟩
  rw [eqv_nil]
  have e : decide (ns.map PyData.int = []) = decide (ns = []) := by cases ns <;> simp
  rw [e]
  exact q
theorem r_eqNilI {ns : List Int} (ha : SqL K H a (ns.map V.int)) (hb : SqL K H b []) (q : Q (.bl (decide (ns = []))) H) : rEqA K (.ref a) (.ref b) H Q := by
  refine .inr ⟨.list (ns.map .int), .list [], .lst ha (dpAll_ints ns), .lst hb .nil, shaped_intsL ns, shaped_intsL [], ?_⟩
  rw [eqv_nil]
  have e : decide (ns.map PyData.int = []) = decide (ns = []) := by cases ns <;> simp
  rw [e]
  exact q
theorem r_revL {te : TE} (h : te σ H fun x H1 => ∃ a xs, x = .ref a ∧ SqL K H1 a xs ∧ NewL xs.reverse H1 Q) : tRevL K te σ H Q := h
theorem r_revP (O : Sta κ I ps H) (h : SqL K H a xs) (k : ∀ p H2, Sta κ I ((p, .lst xs.reverse) :: ps) H2 → Q (.ref p) H2) : ∃ b ys, V.ref a = .ref b ∧ SqL K H b ys ∧ NewL ys.reverse H Q := ⟨a, xs, rfl, h, O.newP k⟩
theorem r_gsub {to ti : TE} {t : TSet} {R : St → Hp → Prop} (h : to σ H fun o H1 => ti σ H1 fun i H2 => t o i v H2 fun H3 => R σ H3) : gSub to ti t v σ H R := h
theorem r_setL {R : Hp → Prop} {n j : Nat} {k : Int} (O : Sta κ I ps H) (h : ps[n]? = some (l, .lst xs)) (e : ixN xs.length k = some j) (q : ∀ H2, Sta κ I (ps.set n (l, .lst (xs.set j v))) H2 → R H2) : rSetL (.ref l) (.int k) v H R := ⟨l, xs, k, j, rfl, rfl, O.ix h, e, q _ (O.set h)⟩
theorem at_nat {α : Type} {xs : List α} {j : Nat} {x : α} (h : xs[j]? = some x) : atI xs (j : Int) = some x := by
  have hj := (List.getElem?_eq_some_iff.mp h).1
  unfold atI ixN
  rw [if_pos (by omega), if_pos (by omega)]
  simpa using h
theorem at_int {α : Type} {xs : List α} {i : Int} (h0 : 0 ≤ i) (h1 : i < xs.length) : ∃ x, atI xs i = some x ∧ xs[i.toNat]? = some x := by
  have hj : i.toNat < xs.length := by omega
  refine ⟨xs[i.toNat], ?_, List.getElem?_eq_getElem hj⟩
  have := at_nat (List.getElem?_eq_getElem hj)
  rwa [Int.toNat_of_nonneg h0] at this
theorem map_at {α β : Type} {f : α → β} {xs : List α} {i : Nat} {y : β} (h : (xs.map f)[i]? = some y) : ∃ x, xs[i]? = some x ∧ y = f x := by
  rw [List.getElem?_map] at h
  cases e : xs[i]? with
  | none => rw [e] at h; cases h
  | some x => rw [e] at h; exact ⟨x, rfl, (Option.some.inj h).symm⟩
end
end L3

/-! values as trees: tuples that bear no dict, made by +, by slices, by divmod. -/
namespace L5
open PySem PySem.Spec PyProof.Rows L2 L3
abbrev St := L2.St
section
variable {X : Cx}
def rCatF (K : PySem.W.Frag) : R2 := fun x y H Q => ∃ a b xs ys, x = .ref a ∧ y = .ref b ∧ SqT K H a xs ∧ SqT K H b ys ∧ xs.length + ys.length ≤ sizeLine ∧
  (xs = [] → Q (.ref b) H) ∧ (xs ≠ [] → ys = [] → Q (.ref a) H) ∧ (xs ≠ [] → ys ≠ [] → NewT (xs ++ ys) H Q)
theorem op_catF : OpR X (binaryOp .Add) (rCatF X.K) := by
  intro pins s σ H x y v u Q I rx ry h
  obtain ⟨a, b, xs, ys, rfl, rfl, ha, hb, hz, q0, q1, q2⟩ := h
  cases rx
  cases ry
  obtain ⟨its, r1, p1, _⟩ := I.tuple ha
  obtain ⟨its2, r2, p2, _⟩ := I.tuple hb
  by_cases hx : xs = []
  · subst hx
    cases r1
    exact cat_tup0 p1 p2 ⟨.ref b, H, I, rfl, q0 rfl⟩
  · refine HT.cat_tup p1 p2 (fun z => hx (r1.nil_iff.mp z)) (fun z => ⟨.ref a, H, I, rfl, q1 hx (r2.nil_iff.mp z)⟩) (fun z => ?_) (by rw [← r1.length, ← r2.length]; exact hz)
    exact newT_run I (r1.append r2) (by rw [List.length_append]; exact hz) (q2 hx fun w => z (r2.nil_iff.mpr w))
def rSlF (K : PySem.W.Frag) : V → Option Int → Option Int → Hp → VK → Prop := fun x lo hi H Q => ∃ a xs, x = .ref a ∧ SqT K H a xs ∧
  (HT.sIx xs.length 0 lo = 0 ∧ HT.sIx xs.length xs.length hi = xs.length → Q (.ref a) H) ∧ (¬ (HT.sIx xs.length 0 lo = 0 ∧ HT.sIx xs.length xs.length hi = xs.length) → NewT (cutV xs lo hi) H Q)
theorem sl_tupF : SlR X (rSlF X.K) := by
  intro pins s σ H x v vl vu lo hi sl Q I rx hs pl pu h
  obtain ⟨a, xs, rfl, hx, q1, q2⟩ := h
  cases rx
  obtain ⟨its, r, ht, hz⟩ := I.tuple hx
  have hlen : its.toArray.size = xs.length := by rw [List.size_toArray]; exact r.length.symm
  refine ⟨"tuple", _, PyProof.Rows.slot_tuple_getitem.lookup, ht.typeIs, ?_⟩
  by_cases hw : HT.sIx xs.length 0 lo = 0 ∧ HT.sIx xs.length xs.length hi = xs.length
  · exact getItem_tuple_whole ht hs pl pu (by rw [hlen]; exact hw) ⟨.ref a, H, I, rfl, q1 hw⟩
  · refine HT.getItem_tuple_cut ht hs pl pu (by rw [hlen]; exact hw) ?_ (by rw [hlen]; exact hz)
    rw [hlen]
    exact newT_run I ((r.drop (HT.sIx xs.length 0 lo)).take (HT.sIx xs.length xs.length hi - HT.sIx xs.length 0 lo)) (Nat.le_trans (cutV_length xs lo hi) hz) (q2 hw)
def rDivmodF : List V → Hp → VK → Prop := fun xs H Q => ∃ i j, xs = [.int i, .int j] ∧ CDiv i j ∧ NewT [.int (i / j), .int (i % j)] H Q
theorem call_divmodF : CallR X (.builtin "divmod") rDivmodF := by
  intro pins s σ H xs us Q I r h
  obtain ⟨i, j, rfl, ⟨h1, h2⟩, q⟩ := h
  obtain ⟨u, w', rfl, ⟨t, rfl⟩, ⟨t', rfl⟩⟩ := vals2 r
  refine divmod_int (by omega) ?_ (.inl (PyProof.noPylong_small (by omega)))
  rw [Int.fdiv_eq_ediv_of_nonneg i (by omega), Int.fmod_eq_emod_of_nonneg i (by omega)]
  exact newT_run (xs := [.int (i / j), .int (i % j)]) (us := [.int (i / j) s.toks, .int (i % j) (s.toks + 1)]) (I.tok (s.toks + 2)) (.cons ⟨_, rfl⟩ (.cons ⟨_, rfl⟩ .nil)) (by simp only [List.length_cons, List.length_nil]; rw [sizeLine_eq]; decide) q
end
/-! ### values as trees -/
inductive PV where
  | non
  | bl (b : Bool)
  | int (i : Int)
  | str (x : Str)
  | tup (xs : List PV)
  | lst (xs : List PV)
  | scr (ns : List Int)
  | own (k : Nat)
  | ty (n : String)
  | cls (C : Addr)
  | kt (xs : List PV)
  | ins (C : Addr) (N : List Str) (xs : List PV)
  | dct (ks : List Key) (xs : List PV)
inductive AO where
  | lst (xs : List PV)
  | dct (ks : List Key) (xs : List PV)
  | ins (C : Addr) (N : List Str) (xs : List PV)
/-- a tuple of the module -/
def KTup (K : PySem.W.Frag) (a : Addr) (us : List V) : Prop :=
  ∃ (o : Obj) (its : Array Value) (n : Nat), K.lookup a = some o ∧ o.cls = .type "tuple" ∧ o.data = .seq its n ∧ its.size ≤ sizeLine ∧ Vals us its.toList
theorem KTup.sq {K : PySem.W.Frag} {H : Hp} {a : Addr} {us : List V} (h : KTup K a us) : SqT K H a us := .inr h
/-- what is known of a class: N are the names of its instances' attributes, as they come -/
structure ClsF (K : PySem.W.Frag) (C : Addr) (N : List Str) : Prop where
  cl : Cls K C
  nd : N.Nodup
  no : ∀ f ∈ N, NoAttr K C f
  ha : PySem.W.findIn K (.ref C) "__class__" = some (some (.builtin "object.__class__"))
  hn : PySem.W.specialIn K (.builtin "object.__class__") "__get__" = some (some (.builtin "getset_descriptor.__get__"))
  ht : PySem.W.takesIn K (.builtin "object.__class__") = some true
  hm : PySem.W.mroIn K C (.type "object") = some true
  few : N.length ≤ 900
abbrev Sto := List AO
abbrev AEnv := List (Option PV)
mutual
inductive VR (K : PySem.W.Frag) (I : Hp) (ad : List Addr) : V → PV → Prop where
  | non : VR K I ad .non .non
  | bl (b : Bool) : VR K I ad (.bl b) (.bl b)
  | int (i : Int) : VR K I ad (.int i) (.int i)
  | str (x : Str) : VR K I ad (.str x) (.str x)
  | tup {a : Addr} {us : List V} {xs : List PV} : TupF I a us → VRs K I ad us xs → VR K I ad (.ref a) (.tup xs)
  | lst {a : Addr} {us : List V} {xs : List PV} : I a = some (.lst us) → VRs K I ad us xs → VR K I ad (.ref a) (.lst xs)
  | scr {a : Addr} {ns : List Int} : SqL K I a (ns.map V.int) → VR K I ad (.ref a) (.scr ns)
  | own {a : Addr} {k : Nat} : ad[k]? = some a → VR K I ad (.ref a) (.own k)
  | ty (n : String) : VR K I ad (.ty n) (.ty n)
  | cls (C : Addr) : VR K I ad (.ref C) (.cls C)
  | kt {a : Addr} {us : List V} {xs : List PV} : KTup K a us → VRs K I ad us xs → VR K I ad (.ref a) (.kt xs)
  | ins {a C dx : Addr} {N : List Str} {fs : List (Str × V)} {xs : List PV} : I a = some (.ins C dx fs) → ClsF K C N → xs.length ≤ N.length → fs.map Prod.fst = N.take xs.length → VRs K I ad (fs.map Prod.snd) xs → VR K I ad (.ref a) (.ins C N xs)
  | dct {a : Addr} {kvs : List (Key × V)} {ks : List Key} {xs : List PV} : I a = some (.dK kvs) → kvs.map Prod.fst = ks → ks.Nodup → VRs K I ad (kvs.map Prod.snd) xs → VR K I ad (.ref a) (.dct ks xs)
inductive VRs (K : PySem.W.Frag) (I : Hp) (ad : List Addr) : List V → List PV → Prop where
  | nil : VRs K I ad [] []
  | cons {v : V} {p : PV} {vs : List V} {ps : List PV} : VR K I ad v p → VRs K I ad vs ps → VRs K I ad (v :: vs) (p :: ps)
end
structure Wd where
  I : Hp
  ad : List Addr
  fr : PL
structure Wd.Lo (W W' : Wd) : Prop where
  ex : Ex W.I W'.I
  ad : ∀ (k : Nat) (a : Addr), W.ad[k]? = some a → W'.ad[k]? = some a
structure Wd.Le (W W' : Wd) : Prop extends Wd.Lo W W' where
  fr : W'.fr = W.fr
theorem Wd.Lo.refl (W : Wd) : W.Lo W := ⟨Ex.refl _, fun _ _ h => h⟩
theorem Wd.Lo.trans {A B C : Wd} (h : A.Lo B) (k : B.Lo C) : A.Lo C := ⟨h.ex.trans k.ex, fun i a e => k.ad i a (h.ad i a e)⟩
theorem Wd.Le.refl (W : Wd) : W.Le W := ⟨.refl W, rfl⟩
theorem Wd.Le.trans {A B C : Wd} (h : A.Le B) (k : B.Le C) : A.Le C := ⟨h.toLo.trans k.toLo, k.fr.trans h.fr⟩
section
variable {K : PySem.W.Frag} {W W' : Wd}
mutual
theorem VR.up (l : W.Lo W') : ∀ {v : V} {p : PV}, VR K W.I W.ad v p → VR K W'.I W'.ad v p
  | _, _, .non => .non
  | _, _, .bl b => .bl b
  | _, _, .int i => .int i
  | _, _, .str x => .str x
  | _, _, .tup h hs => .tup (TupF.up l.ex h) (VRs.up l hs)
  | _, _, .lst h hs => .lst (l.ex _ _ h) (VRs.up l hs)
  | _, _, .scr h => .scr (SqL.up l.ex h)
  | _, _, .own h => .own (l.ad _ _ h)
  | _, _, .ty n => .ty n
  | _, _, .cls C => .cls C
  | _, _, .kt h hs => .kt h (VRs.up l hs)
  | _, _, .ins h c z e hs => .ins (l.ex _ _ h) c z e (VRs.up l hs)
  | _, _, .dct h e n hs => .dct (l.ex _ _ h) e n (VRs.up l hs)
theorem VRs.up (l : W.Lo W') : ∀ {vs : List V} {ps : List PV}, VRs K W.I W.ad vs ps → VRs K W'.I W'.ad vs ps
  | _, _, .nil => .nil
  | _, _, .cons h hs => .cons (VR.up l h) (VRs.up l hs)
end
variable {I : Hp} {ad : List Addr}
theorem VRs.length {vs : List V} {ps : List PV} (h : VRs K I ad vs ps) : vs.length = ps.length := by
  induction vs generalizing ps with
  | nil => cases h; rfl
  | cons v vs ih => cases h with | cons _ h => rw [List.length_cons, List.length_cons, ih h]
theorem VRs.get {vs : List V} {ps : List PV} (h : VRs K I ad vs ps) {i : Nat} {p : PV} (e : ps[i]? = some p) : ∃ v, vs[i]? = some v ∧ VR K I ad v p := by
  induction vs generalizing ps i with
  | nil => cases h; cases e
  | cons v vs ih =>
    cases h with
    | cons h hs =>
      cases i with
      | zero => cases e; exact ⟨v, rfl, h⟩
      | succ i => exact ih hs e
theorem VRs.getV {vs : List V} {ps : List PV} (h : VRs K I ad vs ps) {i : Nat} {v : V} (e : vs[i]? = some v) : ∃ p, ps[i]? = some p ∧ VR K I ad v p := by
  induction vs generalizing ps i with
  | nil => cases h; cases e
  | cons v' vs ih =>
    cases h with
    | cons h hs =>
      cases i with
      | zero => cases e; exact ⟨_, rfl, h⟩
      | succ i => exact ih hs e
theorem VRs.append {vs us : List V} {ps qs : List PV} (h : VRs K I ad vs ps) (k : VRs K I ad us qs) : VRs K I ad (vs ++ us) (ps ++ qs) := by
  induction vs generalizing ps with
  | nil => cases h; exact k
  | cons v vs ih => cases h with | cons h hs => exact .cons h (ih hs)
theorem VRs.drop {vs : List V} {ps : List PV} (h : VRs K I ad vs ps) (n : Nat) : VRs K I ad (vs.drop n) (ps.drop n) := by
  induction n generalizing vs ps with
  | zero => exact h
  | succ n ih => cases h with
    | nil => exact .nil
    | cons _ hs => exact ih hs
theorem VRs.take {vs : List V} {ps : List PV} (h : VRs K I ad vs ps) (n : Nat) : VRs K I ad (vs.take n) (ps.take n) := by
  induction n generalizing vs ps with
  | zero => exact .nil
  | succ n ih => cases h with
    | nil => exact .nil
    | cons h hs => exact .cons h (ih hs)
theorem VRs.reverse {vs : List V} {ps : List PV} (h : VRs K I ad vs ps) : VRs K I ad vs.reverse ps.reverse := by
  induction vs generalizing ps with
  | nil => cases h; exact .nil
  | cons v vs ih => cases h with | cons h hs => rw [List.reverse_cons, List.reverse_cons]; exact (ih hs).append (.cons h .nil)
theorem VRs.set {vs : List V} {ps : List PV} (h : VRs K I ad vs ps) {v : V} {p : PV} (hv : VR K I ad v p) (n : Nat) : VRs K I ad (vs.set n v) (ps.set n p) := by
  induction n generalizing vs ps with
  | zero => cases h with
    | nil => exact .nil
    | cons _ hs => exact .cons hv hs
  | succ n ih => cases h with
    | nil => exact .nil
    | cons h hs => exact .cons h (ih hs)
theorem VRs.dropLast {vs : List V} {ps : List PV} (h : VRs K I ad vs ps) : VRs K I ad vs.dropLast ps.dropLast := by
  rw [List.dropLast_eq_take, List.dropLast_eq_take, h.length]
  exact h.take _
theorem VRs.flat {vs : List V} {ps : List PV} (h : VRs K I ad vs ps) : ∀ n : Nat, VRs K I ad (List.replicate n vs).flatten (List.replicate n ps).flatten
  | 0 => .nil
  | n + 1 => by
    rw [List.replicate_succ, List.flatten_cons, List.replicate_succ, List.flatten_cons]
    exact h.append (h.flat n)
theorem VRs.ints (ns : List Int) : VRs K I ad (ns.map V.int) (ns.map PV.int) := by
  induction ns with
  | nil => exact .nil
  | cons n ns ih => exact .cons (.int n) ih
theorem VRs.ints_of {vs : List V} {ns : List Int} (h : VRs K I ad vs (ns.map PV.int)) : vs = ns.map V.int := by
  induction ns generalizing vs with
  | nil => cases h; rfl
  | cons n ns ih => cases h with
    | cons h hs =>
      cases h
      rw [ih hs]; rfl
theorem VRs.bls_of {vs : List V} {ns : List Bool} (h : VRs K I ad vs (ns.map PV.bl)) : vs = ns.map V.bl := by
  induction ns generalizing vs with
  | nil => cases h; rfl
  | cons n ns ih => cases h with
    | cons h hs =>
      cases h
      rw [ih hs]; rfl
theorem VRs.cut {vs : List V} {ps : List PV} (h : VRs K I ad vs ps) (lo hi : Option Int) : VRs K I ad (cutV vs lo hi) ((ps.drop (HT.sIx ps.length 0 lo)).take (HT.sIx ps.length ps.length hi - HT.sIx ps.length 0 lo)) := by
  unfold cutV
  rw [h.length]
  exact (h.drop _).take _
/-- own objects -/
inductive OR (K : PySem.W.Frag) (I : Hp) (ad : List Addr) : HO → AO → Prop where
  | lst {us : List V} {xs : List PV} : VRs K I ad us xs → OR K I ad (.lst us) (.lst xs)
  | dct {kvs : List (Key × V)} {ks : List Key} {xs : List PV} : kvs.map Prod.fst = ks → ks.Nodup → VRs K I ad (kvs.map Prod.snd) xs → OR K I ad (.dK kvs) (.dct ks xs)
  | ins {C dx : Addr} {N : List Str} {fs : List (Str × V)} {xs : List PV} : ClsF K C N → xs.length ≤ N.length → fs.map Prod.fst = N.take xs.length → VRs K I ad (fs.map Prod.snd) xs → OR K I ad (.ins C dx fs) (.ins C N xs)
theorem OR.up (l : W.Lo W') {o : HO} {a : AO} (h : OR K W.I W.ad o a) : OR K W'.I W'.ad o a := by
  cases h with
  | lst h => exact .lst (h.up l)
  | dct e n h => exact .dct e n (h.up l)
  | ins c z e h => exact .ins c z e (h.up l)
structure In (K : PySem.W.Frag) (W : Wd) (S : Sto) (H : Hp) : Prop where
  ex : ∃ os : List HO, Own W.I (W.ad.zip os ++ W.fr) H ∧ os.length = W.ad.length ∧ os.length = S.length ∧ ∀ (k : Nat) (o : HO) (a : AO), os[k]? = some o → S[k]? = some a → OR K W.I W.ad o a
/-- what is known of the state beside the own objects' contents -/
theorem In.view {S : Sto} {H : Hp} (h : In K W S H) : ∃ ps, Sta .own W.I ps H ∧ ∀ J H2, Ex W.I J → Sta .own J ps H2 → In K ⟨J, W.ad, W.fr⟩ S H2 ∧ W.Le ⟨J, W.ad, W.fr⟩ := by
  obtain ⟨os, O, h1, h2, h3⟩ := h.ex
  refine ⟨_, O, fun J H2 e O2 => ?_⟩
  have l : W.Le ⟨J, W.ad, W.fr⟩ := ⟨⟨e, fun _ _ h => h⟩, rfl⟩
  exact ⟨⟨os, O2, h1, h2, fun k o a q1 q2 => (h3 k o a q1 q2).up l.toLo⟩, l⟩
theorem In.exH {S : Sto} {H : Hp} (h : In K W S H) : Ex W.I H := let ⟨_, O, _⟩ := h.ex; O.ex
theorem zip_get {α β : Type} {xs : List α} {ys : List β} {k : Nat} {x : α} {y : β} (h1 : xs[k]? = some x) (h2 : ys[k]? = some y) : (xs.zip ys)[k]? = some (x, y) := by
  rw [List.getElem?_zip_eq_some]
  exact ⟨h1, h2⟩
/-- an own object: where it stands, what it holds; it may be changed -/
theorem In.atG {S : Sto} {H : Hp} (h : In K W S H) {v : V} {k : Nat} {ao : AO} (hv : VR K W.I W.ad v (.own k)) (hk : S[k]? = some ao) :
    ∃ a o, v = .ref a ∧ H a = some o ∧ OR K W.I W.ad o ao ∧ ∀ o' ao', OR K W.I W.ad o' ao' → In K W (S.set k ao') (upd H a o') := by
  obtain ⟨os, O, h1, h2, h3⟩ := h.ex
  cases hv with
  | own ha =>
    rename_i a
    have hlt : k < os.length := by rw [h2]; exact (List.getElem?_eq_some_iff.mp hk).1
    have ho : os[k]? = some os[k] := List.getElem?_eq_getElem hlt
    have hr := h3 k _ _ ho hk
    generalize os[k] = o at ho hr
    have hz : (W.ad.zip os ++ W.fr)[k]? = some (a, o) := by
      rw [List.getElem?_append_left (by rw [List.length_zip, ← h1, Nat.min_self]; exact hlt)]
      exact zip_get ha ho
    refine ⟨a, o, rfl, O.ix hz, hr, fun o' ao' hr' => ⟨os.set k o', ?_, by rw [List.length_set]; exact h1, by rw [List.length_set, List.length_set]; exact h2, fun j o2 a2 q1 q2 => ?_⟩⟩
    · have O2 := O.set (u := o') hz
      have e : (W.ad.zip os ++ W.fr).set k (a, o') = W.ad.zip (os.set k o') ++ W.fr := by
        rw [List.set_append_left _ _ (by rw [List.length_zip, ← h1, Nat.min_self]; exact hlt)]
        congr 1
        apply List.ext_getElem?
        intro j
        rw [List.getElem?_set]
        split
        · rename_i e
          subst e
          rw [if_pos (by rw [List.length_zip, ← h1, Nat.min_self]; exact hlt)]
          exact (zip_get ha (by rw [List.getElem?_set_self hlt])).symm
        · rename_i e
          simp only [List.zip, List.getElem?_zipWith, List.getElem?_set_ne e]
      rw [← e]
      exact O2
    · rw [List.getElem?_set] at q1 q2
      by_cases e : k = j
      · subst e
        rw [if_pos rfl, if_pos hlt] at q1
        rw [if_pos rfl, if_pos (by rw [← h2]; exact hlt)] at q2
        cases q1
        cases q2
        exact hr'
      · rw [if_neg e] at q1 q2
        exact h3 j o2 a2 q1 q2
theorem In.at {S : Sto} {H : Hp} (h : In K W S H) {v : V} {k : Nat} {xs : List PV} (hv : VR K W.I W.ad v (.own k)) (hk : S[k]? = some (.lst xs)) :
    ∃ a us, v = .ref a ∧ H a = some (.lst us) ∧ VRs K W.I W.ad us xs ∧ ∀ us' xs', VRs K W.I W.ad us' xs' → In K W (S.set k (.lst xs')) (upd H a (.lst us')) := by
  obtain ⟨a, o, e, ha, r, up⟩ := h.atG hv hk
  cases r with
  | lst r => exact ⟨a, _, e, ha, r, fun us' xs' r' => up _ _ (.lst r')⟩
theorem In.atD {S : Sto} {H : Hp} (h : In K W S H) {v : V} {k : Nat} {ks : List Key} {xs : List PV} (hv : VR K W.I W.ad v (.own k)) (hk : S[k]? = some (.dct ks xs)) :
    ∃ a kvs, v = .ref a ∧ H a = some (.dK kvs) ∧ kvs.map Prod.fst = ks ∧ ks.Nodup ∧ VRs K W.I W.ad (kvs.map Prod.snd) xs ∧ ∀ kvs' ks' xs', kvs'.map Prod.fst = ks' → ks'.Nodup → VRs K W.I W.ad (kvs'.map Prod.snd) xs' → In K W (S.set k (.dct ks' xs')) (upd H a (.dK kvs')) := by
  obtain ⟨a, o, e, ha, r, up⟩ := h.atG hv hk
  cases r with
  | dct e2 n r => exact ⟨a, _, e, ha, e2, n, r, fun kvs' ks' xs' e' n' r' => up _ _ (.dct e' n' r')⟩
theorem In.atI {S : Sto} {H : Hp} (h : In K W S H) {v : V} {k : Nat} {C : Addr} {N : List Str} {xs : List PV} (hv : VR K W.I W.ad v (.own k)) (hk : S[k]? = some (.ins C N xs)) :
    ∃ a dx fs, v = .ref a ∧ H a = some (.ins C dx fs) ∧ ClsF K C N ∧ xs.length ≤ N.length ∧ fs.map Prod.fst = N.take xs.length ∧ VRs K W.I W.ad (fs.map Prod.snd) xs ∧
      ∀ dx' fs' xs', xs'.length ≤ N.length → fs'.map Prod.fst = N.take xs'.length → VRs K W.I W.ad (fs'.map Prod.snd) xs' → In K W (S.set k (.ins C N xs')) (upd H a (.ins C dx' fs')) := by
  obtain ⟨a, o, e, ha, r, up⟩ := h.atG hv hk
  cases r with
  | ins c z e2 r => exact ⟨a, _, _, e, ha, c, z, e2, r, fun dx' fs' xs' z' e' r' => up _ _ (.ins c z' e' r')⟩
/-- a new own list -/
theorem In.ownG {S : Sto} {H : Hp} (h : In K W S H) {p : Addr} {o : HO} {ao : AO} (hp : H p = none) (hr : OR K W.I W.ad o ao) :
    In K ⟨W.I, W.ad ++ [p], W.fr⟩ (S ++ [ao]) (upd H p o) ∧ W.Le ⟨W.I, W.ad ++ [p], W.fr⟩ ∧ VR K W.I (W.ad ++ [p]) (.ref p) (.own S.length) := by
  obtain ⟨os, O, h1, h2, h3⟩ := h.ex
  have l : W.Le ⟨W.I, W.ad ++ [p], W.fr⟩ := ⟨⟨Ex.refl _, fun k a e => by
    show (W.ad ++ [p])[k]? = some a
    rw [List.getElem?_append_left (List.getElem?_eq_some_iff.mp e).1]; exact e⟩, rfl⟩
  refine ⟨⟨os ++ [o], ?_, by simp [h1], by simp [h2], fun k o2 a q1 q2 => ?_⟩, l, .own (by rw [← h2, h1]; simp)⟩
  · have O2 := O.own (o := o) hp
    refine O2.perm ?_
    rw [List.zip_append h1.symm, List.append_assoc]
    exact List.perm_middle
  · by_cases e : k < os.length
    · rw [List.getElem?_append_left e] at q1
      rw [List.getElem?_append_left (by rw [← h2]; exact e)] at q2
      exact (h3 k o2 a q1 q2).up l.toLo
    · rw [List.getElem?_append_right (by omega)] at q1
      rw [List.getElem?_append_right (by omega), ← h2] at q2
      cases z : k - os.length with
      | zero =>
        rw [z] at q1 q2
        cases q1
        cases q2
        exact hr.up l.toLo
      | succ n => rw [z] at q1; cases q1
theorem In.own {S : Sto} {H : Hp} (h : In K W S H) {p : Addr} {us : List V} {xs : List PV} (hp : H p = none) (hr : VRs K W.I W.ad us xs) :
    In K ⟨W.I, W.ad ++ [p], W.fr⟩ (S ++ [.lst xs]) (upd H p (.lst us)) ∧ W.Le ⟨W.I, W.ad ++ [p], W.fr⟩ ∧ VR K W.I (W.ad ++ [p]) (.ref p) (.own S.length) := h.ownG hp (.lst hr)
/-- a list under way, beside all -/
theorem In.push {S : Sto} {H : Hp} (h : In K W S H) {p : Addr} {o : HO} (hp : H p = none) : In K ⟨W.I, W.ad, (p, o) :: W.fr⟩ S (upd H p o) := by
  obtain ⟨os, O, h1, h2, h3⟩ := h.ex
  exact ⟨os, (O.own hp).perm List.perm_middle, h1, h2, h3⟩
theorem In.pop {I : Hp} {ad : List Addr} {fr : PL} {p : Addr} {o : HO} {S : Sto} {H : Hp} (h : In K ⟨I, ad, (p, o) :: fr⟩ S H) : H p = some o ∧ ∀ u, In K ⟨I, ad, (p, u) :: fr⟩ S (upd H p u) := by
  obtain ⟨os, O, h1, h2, h3⟩ := h.ex
  have O1 : Own I ((p, o) :: (ad.zip os ++ fr)) H := O.perm List.perm_middle.symm
  refine ⟨O1.ix (i := 0) rfl, fun u => ⟨os, ?_, h1, h2, h3⟩⟩
  exact (O1.set (i := 0) (u := u) rfl).perm List.perm_middle
/-- it is done: it stays as it is; it is one's own -/
theorem In.fin {I : Hp} {ad : List Addr} {fr : PL} {p : Addr} {us : List V} {xs : List PV} {S : Sto} {H : Hp} (h : In K ⟨I, ad, (p, .lst us) :: fr⟩ S H) (hr : VRs K I ad us xs) :
    In K ⟨upd I p (.lst us), ad, fr⟩ S H ∧ Wd.Lo ⟨I, ad, fr⟩ ⟨upd I p (.lst us), ad, fr⟩ ∧ VR K (upd I p (.lst us)) ad (.ref p) (.lst xs) := by
  obtain ⟨os, O, h1, h2, h3⟩ := h.ex
  have O1 : Own I ((p, .lst us) :: (ad.zip os ++ fr)) H := O.perm List.perm_middle.symm
  have l : Wd.Lo ⟨I, ad, fr⟩ ⟨upd I p (.lst us), ad, fr⟩ := ⟨O1.exf, fun _ _ e => e⟩
  exact ⟨⟨os, O1.freeze, h1, h2, fun k o a q1 q2 => (h3 k o a q1 q2).up l⟩, l, .lst upd_same (hr.up l)⟩
theorem In.finG {I : Hp} {ad : List Addr} {fr : PL} {p : Addr} {o : HO} {ao : AO} {S : Sto} {H : Hp} (h : In K ⟨I, ad, (p, o) :: fr⟩ S H) (hr : OR K I ad o ao) :
    In K ⟨I, ad ++ [p], fr⟩ (S ++ [ao]) H ∧ Wd.Lo ⟨I, ad, fr⟩ ⟨I, ad ++ [p], fr⟩ ∧ VR K I (ad ++ [p]) (.ref p) (.own S.length) := by
  obtain ⟨os, O, h1, h2, h3⟩ := h.ex
  have h1 : os.length = ad.length := h1
  have l : Wd.Lo ⟨I, ad, fr⟩ ⟨I, ad ++ [p], fr⟩ := ⟨Ex.refl _, fun k a e => by
    show (ad ++ [p])[k]? = some a
    rw [List.getElem?_append_left (List.getElem?_eq_some_iff.mp e).1]; exact e⟩
  refine ⟨⟨os ++ [o], ?_, by simp [h1], by simp [h2], fun k o2 a q1 q2 => ?_⟩, l, .own (by rw [← h2, h1]; simp)⟩
  · have O1 : Own I ((p, o) :: (ad.zip os ++ fr)) H := O.perm List.perm_middle.symm
    refine O1.perm ?_
    show ((ad ++ [p]).zip (os ++ [o]) ++ fr).Perm _
    rw [List.zip_append h1.symm, List.append_assoc]
    exact List.perm_middle
  · by_cases e : k < os.length
    · rw [List.getElem?_append_left e] at q1
      rw [List.getElem?_append_left (by rw [← h2]; exact e)] at q2
      exact (h3 k o2 a q1 q2).up l
    · rw [List.getElem?_append_right (by omega)] at q1
      rw [List.getElem?_append_right (by omega), ← h2] at q2
      cases z : k - os.length with
      | zero =>
        rw [z] at q1 q2
        cases q1
        cases q2
        exact hr.up l
      | succ n => rw [z] at q1; cases q1
theorem In.finO {I : Hp} {ad : List Addr} {fr : PL} {p : Addr} {us : List V} {xs : List PV} {S : Sto} {H : Hp} (h : In K ⟨I, ad, (p, .lst us) :: fr⟩ S H) (hr : VRs K I ad us xs) :
    In K ⟨I, ad ++ [p], fr⟩ (S ++ [.lst xs]) H ∧ Wd.Lo ⟨I, ad, fr⟩ ⟨I, ad ++ [p], fr⟩ ∧ VR K I (ad ++ [p]) (.ref p) (.own S.length) := h.finG (.lst hr)
/-- what is under way stays as it is -/
theorem In.keep {I : Hp} {ad : List Addr} {fr : PL} {p : Addr} {o : HO} {S : Sto} {H : Hp} (h : In K ⟨I, ad, (p, o) :: fr⟩ S H) : In K ⟨upd I p o, ad, fr⟩ S H ∧ Wd.Lo ⟨I, ad, fr⟩ ⟨upd I p o, ad, fr⟩ := by
  obtain ⟨os, O, h1, h2, h3⟩ := h.ex
  have O1 : Own I ((p, o) :: (ad.zip os ++ fr)) H := O.perm List.perm_middle.symm
  have l : Wd.Lo ⟨I, ad, fr⟩ ⟨upd I p o, ad, fr⟩ := ⟨O1.exf, fun _ _ e => e⟩
  exact ⟨⟨os, O1.freeze, h1, h2, fun k o a q1 q2 => (h3 k o a q1 q2).up l⟩, l⟩
/-- the environment; none: nothing is known -/
inductive ER (K : PySem.W.Frag) (W : Wd) : St → AEnv → Prop where
  | nil : ER K W [] []
  | any {x : Option V} {σ : St} {ρ : AEnv} : ER K W σ ρ → ER K W (x :: σ) (none :: ρ)
  | cons {v : V} {p : PV} {σ : St} {ρ : AEnv} : VR K W.I W.ad v p → ER K W σ ρ → ER K W (some v :: σ) (some p :: ρ)
theorem ER.up (l : W.Lo W') {σ : St} {ρ : AEnv} (h : ER K W σ ρ) : ER K W' σ ρ := by
  induction h with
  | nil => exact .nil
  | any _ ih => exact .any ih
  | cons h _ ih => exact .cons (h.up l) ih
@[reducible] def look : AEnv → Nat → Option PV
  | [], _ => none
  | x :: _, 0 => x
  | _ :: r, n + 1 => look r n
@[reducible] def put : AEnv → Nat → PV → AEnv
  | [], _, _ => []
  | _ :: r, 0, p => some p :: r
  | x :: r, n + 1, p => x :: put r n p
@[reducible] def hide : AEnv → Nat → AEnv
  | [], _ => []
  | _ :: r, 0 => none :: r
  | x :: r, n + 1 => x :: hide r n
@[reducible] def hides : AEnv → List Nat → AEnv
  | ρ, [] => ρ
  | ρ, v :: vs => hide (hides ρ vs) v
theorem ER.look {σ : St} {ρ : AEnv} (h : ER K W σ ρ) : ∀ {i : Nat} {p : PV}, look ρ i = some p → ∃ v, σ[i]? = some (some v) ∧ VR K W.I W.ad v p := by
  induction h with
  | nil => intro i p e; cases e
  | any _ ih =>
    intro i p e
    cases i with
    | zero => cases e
    | succ i => exact ih e
  | cons h _ ih =>
    intro i p e
    cases i with
    | zero => cases e; exact ⟨_, rfl, h⟩
    | succ i => exact ih e
theorem ER.put {σ : St} {ρ : AEnv} (h : ER K W σ ρ) {v : V} {p : PV} (hv : VR K W.I W.ad v p) : ∀ i : Nat, ER K W (σ.set i (some v)) (put ρ i p) := by
  induction h with
  | nil => intro i; exact .nil
  | any h ih =>
    intro i
    cases i with
    | zero => exact .cons hv h
    | succ i => exact .any (ih i)
  | cons h hs ih =>
    intro i
    cases i with
    | zero => exact .cons hv hs
    | succ i => exact .cons h (ih i)
theorem ER.hide {σ : St} {ρ : AEnv} (h : ER K W σ ρ) : ∀ i : Nat, ER K W (σ.set i none) (hide ρ i) := by
  induction h with
  | nil => intro i; exact .nil
  | any h ih =>
    intro i
    cases i with
    | zero => exact .any h
    | succ i => exact .any (ih i)
  | cons h hs ih =>
    intro i
    cases i with
    | zero => exact .any hs
    | succ i => exact .cons h (ih i)
theorem ER.wipe {σ : St} {ρ : AEnv} (h : ER K W σ ρ) : ∀ vs : List Nat, ER K W (wipe σ vs) (hides ρ vs)
  | [] => h
  | v :: vs => (h.wipe vs).hide v
/-- weaker environments -/
inductive EW : AEnv → AEnv → Prop where
  | nil : EW [] []
  | any {x : Option PV} {ρ ρ' : AEnv} : EW ρ ρ' → EW (x :: ρ) (none :: ρ')
  | cons {x : Option PV} {ρ ρ' : AEnv} : EW ρ ρ' → EW (x :: ρ) (x :: ρ')
theorem ER.weak {σ : St} {ρ ρ' : AEnv} (h : ER K W σ ρ) (w : EW ρ ρ') : ER K W σ ρ' := by
  induction h generalizing ρ' with
  | nil => cases w; exact .nil
  | any h ih =>
    cases w with
    | any w => exact .any (ih w)
    | cons w => exact .any (ih w)
  | cons h hs ih =>
    cases w with
    | any w => exact .any (ih w)
    | cons w => exact .cons h (ih w)
end
end L5

/-! classes where no repr is under way: methods, properties, what makes instances, own ==. -/
namespace L3
open PySem PySem.Spec PyProof.Rows L2
section
variable {X : Cx} {CX : CXT} {k j n : Nat} {f C q g : Addr} {fd : FuncData} {ps ks : List Str} {sp : Sp} {E : XK} {x m : Str} {p pos apos np : Pos} {e o : Expr} {es : List Expr} {kws : List Keyword} {ta : TE} {t tk : TA}
/-- the class at C has a method m that keeps the promise sp (self first) -/
structure Cm (P : Program) (w : World) (K : PySem.W.Frag) (mg : Str → Option Value) (base : Heap) (CX : CXT) (k : Nat) (C : Addr) (m : Str) (sp : Sp) : Prop where
  ex : ∃ (f : Addr) (fd : FuncData) (ps : List Str), FnG P w K mg base CX k f fd ps sp ∧ Meth K C m f ∧ Binds K fd ps []
/-- the same with n positions and the keywords ks -/
structure Cmk (P : Program) (w : World) (K : PySem.W.Frag) (mg : Str → Option Value) (base : Heap) (CX : CXT) (k : Nat) (C : Addr) (m : Str) (n : Nat) (ks : List Str) (sp : Sp) : Prop where
  ex : ∃ (f : Addr) (fd : FuncData) (ps : List Str) (g : List Value → List Value → List Value) (gV : List V → List V → List V) (sp0 : Sp), FnG P w K mg base CX k f fd ps sp0 ∧ Meth K C m f ∧ KBn K fd ps (n + 1) ks g gV ∧
    ∀ x vs zs H Q E, sp (x :: (vs ++ zs)) H Q E → zs.length = ks.length → vs.length = n ∧ sp0 (gV (x :: vs) zs) H Q E
theorem Cm.mono {P : Program} {w : World} {K : PySem.W.Frag} {mg : Str → Option Value} {base : Heap} (c : Cm P w K mg base CX k C m sp) (h : k ≤ j) : Cm P w K mg base CX j C m sp := by
  obtain ⟨f, fd, ps, F, a, b⟩ := c.ex
  exact ⟨⟨f, fd, ps, F.mono h, a, b⟩⟩
theorem Cg.mono {P : Program} {w : World} {K : PySem.W.Frag} {mg : Str → Option Value} {base : Heap} (c : Cg P w K mg base CX k x sp) (h : k ≤ j) : Cg P w K mg base CX j x sp := by
  obtain ⟨f, fd, ps, F, a, b, d⟩ := c.ex
  exact ⟨⟨f, fd, ps, F.mono h, a, b, d⟩⟩
/-- o.m(..): cs tells the promise by the class of the object -/
def tMd (K : PySem.W.Frag) (m : Str) (cs : Addr → Sp → Prop) (E : XK) (ta : TE) (t : TA) : TE := fun σ H Q => ta σ H fun x H1 => ∃ a C dx fs sp, x = .ref a ∧ H1 a = some (.ins C dx fs) ∧ Cls K C ∧ fs.lookup m = none ∧ cs C sp ∧
  t σ H1 fun vs H2 => sp (x :: vs) H2 Q E
def tMdk (K : PySem.W.Frag) (m : Str) (nk : Nat) (cs : Addr → Sp → Prop) (E : XK) (ta : TE) (t tk : TA) : TE := fun σ H Q => ta σ H fun x H1 => ∃ a C dx fs sp, x = .ref a ∧ H1 a = some (.ins C dx fs) ∧ Cls K C ∧ fs.lookup m = none ∧ cs C sp ∧
  t σ H1 fun vs H2 => tk σ H2 fun zs H3 => zs.length = nk ∧ sp (x :: (vs ++ zs)) H3 Q E
theorem pe_md {pl : Sem Bool} {cs : Addr → Sp → Prop} (he : PE X o ta) (hc : ∀ C sp, cs C sp → Cm X.prog X.w X.K X.mg X.base CX k C m sp) (hgd : X.A.guards = some []) (hr : Room j X.A) (hk : k ≤ j) (hx : Passes CX X E) (ha : PA X (e :: es) t)
    (hst : starEach (e :: es) X.env = (false, eval e X.env) :: starEach es X.env := by rfl) (hpl : (backTo pos (starEach es X.env)).any (·.1) = false := by rfl)
    (ht : eval (.Call (.Attribute o m apos) (e :: es) [] pos) X.env = (do
      let ov ← eval o X.env
      standAt apos.atName
      let (f, first) ← holding [ov] (getMethod ov m pl)
      callWith pos f first (backTo pos (starEach (e :: es) X.env)) (backToKw pos (keywordEach [] X.env))) := by rfl) :
    PE X (.Call (.Attribute o m apos) (e :: es) [] pos) (tMd X.K m cs E ta t) := by
  refine ⟨fun pins s σ H Q I h => ?_⟩
  refine PySem.W.methodCall_KW (pl := pl) (thn (he.run pins s σ H _ I h) fun u s1 ⟨x, H1, I1, rx, a, C, dx, fs, sp, ex, ea, cl, l, hsp, q⟩ => ?_) ht
  subst ex
  obtain rfl : u = Value.ref a := rx
  obtain ⟨f, fd, ps, F, hm, b⟩ := (hc _ _ hsp).ex
  refine getmeth_ok I1 ea cl hm l ?_
  refine PySem.W.callWith_K (first := [.ref a]) (h₀ := X.base) I1.ok.mod.kin hm.kp (thn (ha.run pos pins s1 σ H1 _ I1 q) fun us s2 ⟨vs, H2, I2, r, q2⟩ => ⟨I2.kIn, ?_⟩) hst hpl
  have r2 : Vals (V.ref a :: vs) (Value.ref a :: us) := .cons rfl r
  have hb := b s2 (.ref a :: us) I2.kIn (by rw [List.append_nil, ← r2.length]; exact F.len _ _ _ _ q2)
  rw [List.append_nil] at hb
  exact run_g F hgd (hr.mono hk) hb hx I2 r2 q2
theorem pe_md0 {pl : Sem Bool} {cs : Addr → Sp → Prop} (he : PE X o ta) (hc : ∀ C sp, cs C sp → Cm X.prog X.w X.K X.mg X.base CX k C m sp) (hgd : X.A.guards = some []) (hr : Room j X.A) (hk : k ≤ j) (hx : Passes CX X E)
    (ht : eval (.Call (.Attribute o m apos) [] [] pos) X.env = (do
      let ov ← eval o X.env
      standAt apos.atName
      let (f, first) ← holding [ov] (getMethod ov m pl)
      callWith pos f first (backTo pos (starEach [] X.env)) (backToKw pos (keywordEach [] X.env))) := by rfl) :
    PE X (.Call (.Attribute o m apos) [] [] pos) (tMd X.K m cs E ta tNil) := by
  refine ⟨fun pins s σ H Q I h => ?_⟩
  refine PySem.W.methodCall_KW (pl := pl) (thn (he.run pins s σ H _ I h) fun u s1 ⟨x, H1, I1, rx, a, C, dx, fs, sp, ex, ea, cl, l, hsp, q⟩ => ?_) ht
  subst ex
  obtain rfl : u = Value.ref a := rx
  obtain ⟨f, fd, ps, F, hm, b⟩ := (hc _ _ hsp).ex
  refine getmeth_ok I1 ea cl hm l ?_
  refine PySem.W.callWith_K0 (first := [.ref a]) I1.kIn hm.kp ?_
  have r2 : Vals [V.ref a] [Value.ref a] := .cons rfl .nil
  have hb := b s1 [.ref a] I1.kIn (by rw [List.append_nil, ← r2.length]; exact F.len _ _ _ _ q)
  rw [List.append_nil] at hb
  exact run_g F hgd (hr.mono hk) hb hx I1 r2 q
theorem pe_mdk {pl : Sem Bool} {cs : Addr → Sp → Prop} (he : PE X o ta) (hc : ∀ C sp, cs C sp → Cmk X.prog X.w X.K X.mg X.base CX k C m n ks sp) (hgd : X.A.guards = some []) (hr : Room j X.A) (hk : k ≤ j) (hx : Passes CX X E) (ha : PA X (e :: es) t) (hkw : PK X kws tk)
    (hall : (backToKw pos (keywordEach kws X.env)).all (·.1.isSome) = true := by rfl) (hks : (backToKw pos (keywordEach kws X.env)).filterMap (·.1) = ks := by rfl)
    (hst : starEach (e :: es) X.env = (false, eval e X.env) :: starEach es X.env := by rfl) (hpl : ((backTo pos (starEach (e :: es) X.env)).any (·.1) || (backToKw pos (keywordEach kws X.env)).any (·.1.isNone)) = false := by rfl)
    (ht : eval (.Call (.Attribute o m apos) (e :: es) kws pos) X.env = (do
      let ov ← eval o X.env
      standAt apos.atName
      let (f, first) ← holding [ov] (getMethod ov m pl)
      callWith pos f first (backTo pos (starEach (e :: es) X.env)) (backToKw pos (keywordEach kws X.env))) := by rfl) :
    PE X (.Call (.Attribute o m apos) (e :: es) kws pos) (tMdk X.K m ks.length cs E ta t tk) := by
  refine ⟨fun pins s σ H Q I h => ?_⟩
  refine PySem.W.methodCall_KW (pl := pl) (thn (he.run pins s σ H _ I h) fun u s1 ⟨x, H1, I1, rx, a, C, dx, fs, sp, ex, ea, cl, l, hsp, q⟩ => ?_) ht
  subst ex
  obtain rfl : u = Value.ref a := rx
  obtain ⟨f, fd, ps, g, gV, sp0, F, hm, b, imp⟩ := (hc _ _ hsp).ex
  refine getmeth_ok I1 ea cl hm l ?_
  refine PySem.W.callWith_KW (first := [.ref a]) (h₀ := X.base) I1.ok.mod.kin hm.kp hall (thn (ha.run pos pins s1 σ H1 _ I1 q) fun us s2 ⟨vs, H2, I2, r, q2⟩ => ?_) hpl hst
  refine thn (hkw.run pos pins s2 σ H2 _ I2 q2) fun ws s3 ⟨zs, H3, I3, rz, hz, q3⟩ => ⟨I3.kIn, ?_⟩
  rw [hks]
  obtain ⟨hn, q4⟩ := imp _ _ _ _ _ _ q3 hz
  have r2 : Vals (V.ref a :: vs) (Value.ref a :: us) := .cons rfl r
  exact run_g F hgd (hr.mono hk) (b.to s3 (.ref a :: us) ws I3.kIn (by rw [← r2.length, List.length_cons, hn]) (by rw [← rz.length]; exact hz)) hx I3 (b.rel r2 rz) q4
theorem pe_mdk0 {pl : Sem Bool} {cs : Addr → Sp → Prop} (he : PE X o ta) (hc : ∀ C sp, cs C sp → Cmk X.prog X.w X.K X.mg X.base CX k C m 0 ks sp) (hgd : X.A.guards = some []) (hr : Room j X.A) (hk : k ≤ j) (hx : Passes CX X E) (hkw : PK X kws tk)
    (hall : (backToKw pos (keywordEach kws X.env)).all (·.1.isSome) = true := by rfl) (hks : (backToKw pos (keywordEach kws X.env)).filterMap (·.1) = ks := by rfl)
    (hpl : ((backTo pos (starEach [] X.env)).any (·.1) || (backToKw pos (keywordEach kws X.env)).any (·.1.isNone)) = false := by rfl)
    (ht : eval (.Call (.Attribute o m apos) [] kws pos) X.env = (do
      let ov ← eval o X.env
      standAt apos.atName
      let (f, first) ← holding [ov] (getMethod ov m pl)
      callWith pos f first (backTo pos (starEach [] X.env)) (backToKw pos (keywordEach kws X.env))) := by rfl) :
    PE X (.Call (.Attribute o m apos) [] kws pos) (tMdk X.K m ks.length cs E ta tNil tk) := by
  refine ⟨fun pins s σ H Q I h => ?_⟩
  refine PySem.W.methodCall_KW (pl := pl) (thn (he.run pins s σ H _ I h) fun u s1 ⟨x, H1, I1, rx, a, C, dx, fs, sp, ex, ea, cl, l, hsp, q⟩ => ?_) ht
  subst ex
  obtain rfl : u = Value.ref a := rx
  obtain ⟨f, fd, ps, g, gV, sp0, F, hm, b, imp⟩ := (hc _ _ hsp).ex
  refine getmeth_ok I1 ea cl hm l ?_
  refine PySem.W.callWith_KW0 (first := [.ref a]) (h₀ := X.base) I1.ok.mod.kin hm.kp hall ?_ hpl
  refine thn (hkw.run pos pins s1 σ H1 _ I1 q) fun ws s3 ⟨zs, H3, I3, rz, hz, q3⟩ => ⟨I3.kIn, ?_⟩
  rw [hks]
  obtain ⟨hn, q4⟩ := imp _ _ _ _ _ _ q3 hz
  have r2 : Vals [V.ref a] [Value.ref a] := .cons rfl .nil
  exact run_g F hgd (hr.mono hk) (b.to s3 [.ref a] ws I3.kIn rfl (by rw [← rz.length]; exact hz)) hx I3 (b.rel r2 rz) q4
/-! ### properties -/
structure Cp (P : Program) (w : World) (K : PySem.W.Frag) (mg : Str → Option Value) (base : Heap) (CX : CXT) (k : Nat) (C : Addr) (m : Str) (sp : Sp) : Prop where
  ex : ∃ (p f : Addr) (fd : FuncData) (ps : List Str), FnG P w K mg base CX k f fd ps sp ∧ PropOf K C m p f ∧ Binds K fd ps []
theorem in1_guards {A : Around} (h : A.guards = some []) : A.in1.guards = some [] := h
def tPr (K : PySem.W.Frag) (cs : Addr → Sp → Prop) (E : XK) (ta : TE) : TE := fun σ H Q => ta σ H fun x H1 => ∃ a C dx fs sp, x = .ref a ∧ H1 a = some (.ins C dx fs) ∧ Cls K C ∧ cs C sp ∧ sp [x] H1 Q E
theorem pe_pr {cs : Addr → Sp → Prop} (he : PE X o ta) (hc : ∀ C sp, cs C sp → Cp X.prog X.w X.K X.mg X.base CX k C m sp) (hgd : X.A.guards = some []) (hr : Room j X.A) (hk : k + 1 ≤ j) (hx : Passes CX X.nox E)
    (hab : attributeBase o m X.env (eval o X.env) = eval o X.env) : PE X (.Attribute o m pos) (tPr X.K cs E ta) := by
  refine ⟨fun pins s σ H Q I h => ?_⟩
  refine attr_of hab (thn (he.run pins s σ H _ I h) fun u s1 ⟨x, H1, I1, rx, a, C, dx, fs, sp, ex, ea, cl, hsp, q⟩ => ?_)
  subst ex
  obtain rfl : u = Value.ref a := rx
  obtain ⟨p, f, fd, ps, F, hp, b⟩ := (hc _ _ hsp).ex
  obtain ⟨mA, O, _, _, _, _⟩ := ins_get I1.hok ea
  obtain ⟨od, J, _⟩ := O.look
  obtain ⟨rest, hrec⟩ := hp.rec_
  have I2 := I1.tok (s1.toks + 1)
  have hb := b { s1 with toks := s1.toks + 1 } [.ref a] I2.kIn (F.len _ _ _ _ q)
  rw [List.append_nil] at hb
  have hcl : (PySem.W.clsIn X.K C).isSome = true := by
    obtain ⟨cd, hc, _⟩ := PySem.W.any_some cl.hd
    rw [hc]
    rfl
  refine PySem.W.get_bind I1.kIn J (PySem.W.plainGet_of (cl.get m)).1 (PySem.W.findObj_data hcl hp.at_ hp.get hp.tak) (PySem.W.plainGet_of (cl.get m)).2 (wpAny_call (PySem.W.prop_get (s := { s1 with toks := s1.toks + 1 }) I1.kIn hrec ?_))
  refine codeAny_mono (F.run X.A.in1 X.stack { s1 with toks := s1.toks + 1 } H1 ⟨[.ref a], []⟩ [.ref a] [.ref a] Q E (in1_guards hgd) (hr.mono hk).in1 I2.env0.in1 hb (.cons rfl .nil) q) fun r s' hq => ?_
  cases r with
  | error er => exact False.elim (hx pins σ H1 { s1 with toks := s1.toks + 1 } er s' (I2.wish _) hq)
  | ok fl =>
    cases fl with
    | ret u =>
      obtain ⟨v, H', I3, rv, q3⟩ := I2.after hq
      show wpAny _ _ (handedOut u) _ _ _
      rw [PySem.W.handedOut_of (handed_of rv)]
      exact wpAny_pure ⟨v, H', I3, rv, q3⟩
    | next => exact False.elim hq
    | brk => exact False.elim hq
    | cont => exact False.elim hq
/-! ### C(..) -/
/-- without an __init__ of its own -/
structure Mk0 (K : PySem.W.Frag) (C : Addr) : Prop where
  makes : PySem.W.makesIn K C = true
  init : PySem.W.findIn K (.ref C) "__init__" = some (some (.builtin "object.__init__"))
  kp : PySem.W.keepIn K (.ref C) = true
theorem run_make0 {pins : List (Addr × Obj)} {σ : St} {H : Hp} {s : Shared} {Q : VK} (M : Mk0 X.K C) (I : Inv X pins σ H s)
    (h : ∀ x dx, H x = none → H dx = none → dx ≠ x → Q (.ref x) (upd (upd H dx (.own x)) x (.ins C dx []))) : wpAny (model X.prog X.w) X.A (call (.ref C) []) (EP X pins σ Q) X.xe s := by
  have hq := h (s.heap.objs.size + 1) s.heap.objs.size (I.hok.fresh (Nat.le_succ _)) (I.hok.fresh (Nat.le_refl _)) (Nat.ne_of_lt (Nat.lt_succ_self _))
  have I2 := Inv.made (C := C) I
  refine wpAny_call (make_map0 I.kIn M.makes M.init (fun self => PySem.W.Looks.of_pure (PySem.W.oi_bind self)) ?_)
  have Y := PySem.W.makes_of (M := model X.prog X.w) I.kIn M.makes
  have e2 : ((s.heap.push PySem.W.emptyDict).push (PySem.W.instObj C s.heap.objs.size)).get? (s.heap.objs.size + 1) = some (PySem.W.instObj C s.heap.objs.size) := by
    have := Heap.get?_push_size (s.heap.push PySem.W.emptyDict) (o := PySem.W.instObj C s.heap.objs.size) rfl
    rwa [Heap.size_push] at this
  have t1 : PySem.W.Looks (model X.prog X.w) ((s.heap.push PySem.W.emptyDict).push (PySem.W.instObj C s.heap.objs.size)) (typeOf (.ref (s.heap.objs.size + 1))) (.ref C) := (PySem.W.Looks.ld e2).andThen .now
  have t2 : PySem.W.Looks (model X.prog X.w) ((s.heap.push PySem.W.emptyDict).push (PySem.W.instObj C s.heap.objs.size)) (isInstance (.ref (s.heap.objs.size + 1)) (.type "object")) true :=
    t1.andThen (Y.top.keeps fun b o e => Heap.get?_push_of_some _ (Heap.get?_push_of_some _ e))
  refine codeAny_call_builtin PySem.W.oi_plain PySem.W.entry_oi (@PySem.W.check_slot (model X.prog X.w) _ _ _ "object.__init__" "object" "__init__" (.ref (s.heap.objs.size + 1)) [] [] _ PySem.W.oi_kind PySem.W.oi_split t2 (PySem.W.oi_args (.ref (s.heap.objs.size + 1))) ?_)
  rw [PySem.W.oi_run]
  exact wpAny_pure (And.intro rfl ⟨V.ref (s.heap.objs.size + 1), _, I2, rfl, hq⟩)
def tMk0 (C : Addr) : TE := fun _ H Q => ∀ x dx, H x = none → H dx = none → dx ≠ x → Q (.ref x) (upd (upd H dx (.own x)) x (.ins C dx []))
theorem pe_mk0 (M : Mk0 X.K C) (hg : Gl X x) (hm : X.mg x = some (.ref C)) (hdb : (x == ("__debug__" : Str)) = false := by decide) : PE X (.Call (.Name x p) [] [] pos) (tMk0 C) := by
  refine ⟨fun pins s σ H Q I h => ?_⟩
  refine wpAny_Call_Name_kw (ld_glob I hg hm ?_ hdb)
  exact PySem.W.callWith_K0 I.kIn M.kp (run_make0 M I h)
theorem make_guards {A : Around} {C : Addr} {us : List Value} {kw : List (Str × Value)} (h : A.guards = some []) : (A.under (.builtin "type.__call__" ⟨.ref C :: us, kw⟩)).guards = some [] := by
  first | exact h | (simpa [Around.under, Code.weight, Code.isCreation, Code.isGuard, Code.isCaller, Code.frames, Code.isFrame, guardIds] using h)
/-- with one: F what it promises -/
structure Ck (P : Program) (w : World) (K : PySem.W.Frag) (mg : Str → Option Value) (base : Heap) (CX : CXT) (k : Nat) (C : Addr) (n : Nat) (ks : List Str) (sp : Sp) : Prop where
  ex : ∃ (f : Addr) (fd : FuncData) (ps : List Str) (g : List Value → List Value → List Value) (gV : List V → List V → List V) (sp0 : Sp), FnG P w K mg base CX k f fd ps sp0 ∧ Mk K C f ∧ KBn K fd ps (n + 1) ks g gV ∧
    ∀ x vs zs H Q E, sp (x :: (vs ++ zs)) H Q E → zs.length = ks.length → vs.length = n ∧ sp0 (gV (x :: vs) zs) H Q E
def tMk (C : Addr) (nk : Nat) (sp : Sp) (E : XK) (t tk : TA) : TE := fun σ H Q => t σ H fun vs H1 => tk σ H1 fun zs H2 => zs.length = nk ∧ ∀ x dx, H2 x = none → H2 dx = none → dx ≠ x →
  sp (.ref x :: (vs ++ zs)) (upd (upd H2 dx (.own x)) x (.ins C dx [])) (fun v H3 => v = .non ∧ Q (.ref x) H3) E
theorem run_mk {pins : List (Addr × Obj)} {σ : St} {H : Hp} {s : Shared} {Q : VK} {us ws : List Value} {vs zs : List V} (c : Ck X.prog X.w X.K X.mg X.base CX k C n ks sp) (hgd : X.A.guards = some []) (hr : Room (k + 1) X.A) (hx : Passes CX X E)
    (I : Inv X pins σ H s) (r : Vals vs us) (rz : Vals zs ws) (l2 : zs.length = ks.length)
    (h : ∀ x dx, H x = none → H dx = none → dx ≠ x → sp (.ref x :: (vs ++ zs)) (upd (upd H dx (.own x)) x (.ins C dx [])) (fun v H2 => v = .non ∧ Q (.ref x) H2) E) :
    wpAny (model X.prog X.w) X.A (call (.ref C) us (ks.zip ws)) (EP X pins σ Q) X.xe s := by
  obtain ⟨f, fd, ps, g, gV, sp0, F, M, hb, imp⟩ := c.ex
  obtain ⟨l1, hq⟩ := imp _ _ _ _ _ _ (h (s.heap.objs.size + 1) s.heap.objs.size (I.hok.fresh (Nat.le_succ _)) (I.hok.fresh (Nat.le_refl _)) (Nat.ne_of_lt (Nat.lt_succ_self _))) l2
  have I2 := Inv.made (C := C) I
  have r1 : Vals (V.ref (s.heap.objs.size + 1) :: vs) (Value.ref (s.heap.objs.size + 1) :: us) := .cons rfl r
  have r2 := hb.rel r1 rz
  have n1 : (Value.ref (s.heap.objs.size + 1) :: us).length = n + 1 := by
    rw [List.length_cons, ← r.length, l1]
  refine wpAny_call (make_map (f := f) I.kIn M.makes M.init (beq_iff_eq.mp M.fn) (codeAny_mono (F.run _ X.stack _ _ ⟨Value.ref (s.heap.objs.size + 1) :: us, ks.zip ws⟩ (g (Value.ref (s.heap.objs.size + 1) :: us) ws) _ _ E (make_guards hgd) (hr.make C us (ks.zip ws))
    (I2.env0.make C us (ks.zip ws)) (hb.to _ (Value.ref (s.heap.objs.size + 1) :: us) ws I2.kIn n1 (rz.length.symm.trans l2)) r2 hq) fun r s' hq' => ?_))
  cases r with
  | error e => exact hx pins σ _ _ e s' I2 hq'
  | ok fl =>
    cases fl with
    | ret u =>
      obtain ⟨v, H', I3, rv, ev, q3⟩ := I2.after hq'
      subst ev
      exact ⟨rv, ⟨V.ref (s.heap.objs.size + 1), H', I3, rfl, q3⟩⟩
    | next => exact False.elim hq'
    | brk => exact False.elim hq'
    | cont => exact False.elim hq'
theorem pe_mkA (c : Ck X.prog X.w X.K X.mg X.base CX k C n [] sp) (hgd : X.A.guards = some []) (hr : Room j X.A) (hk : k + 1 ≤ j) (hg : Gl X x) (hm : X.mg x = some (.ref C)) (hx : Passes CX X E) (ha : PA X (e :: es) t)
    (hdb : (x == ("__debug__" : Str)) = false := by decide) (he : starEach (e :: es) X.env = (false, eval e X.env) :: starEach es X.env := by rfl) (hpl : (backTo pos (starEach es X.env)).any (·.1) = false := by rfl) :
    PE X (.Call (.Name x p) (e :: es) [] pos) (tMk C 0 sp E t tNil) := by
  refine ⟨fun pins s σ H Q I h => ?_⟩
  refine wpAny_Call_Name_kw (ld_glob I hg hm ?_ hdb)
  have kp : PySem.W.keepIn X.K (.ref C) = true := let ⟨_, _, _, _, _, _, _, M, _⟩ := c.ex; M.kp
  refine PySem.W.callWith_K (h₀ := X.base) I.ok.mod.kin kp (thn (ha.run pos pins s σ H _ I h) fun us s1 ⟨vs, H1, I1, r, q⟩ => ⟨I1.kIn, ?_⟩) he hpl
  obtain ⟨_, q⟩ := q
  exact run_mk (ws := []) (zs := []) c hgd (hr.mono hk) hx I1 r .nil rfl q
theorem pe_mkN (c : Ck X.prog X.w X.K X.mg X.base CX k C 0 [] sp) (hgd : X.A.guards = some []) (hr : Room j X.A) (hk : k + 1 ≤ j) (hg : Gl X x) (hm : X.mg x = some (.ref C)) (hx : Passes CX X E)
    (hdb : (x == ("__debug__" : Str)) = false := by decide) : PE X (.Call (.Name x p) [] [] pos) (tMk C 0 sp E tNil tNil) := by
  refine ⟨fun pins s σ H Q I h => ?_⟩
  refine wpAny_Call_Name_kw (ld_glob I hg hm ?_ hdb)
  have kp : PySem.W.keepIn X.K (.ref C) = true := let ⟨_, _, _, _, _, _, _, M, _⟩ := c.ex; M.kp
  refine PySem.W.callWith_K0 I.kIn kp ?_
  obtain ⟨_, q⟩ := (show _ ∧ _ from h)
  exact run_mk (us := []) (vs := []) (ws := []) (zs := []) c hgd (hr.mono hk) hx I .nil .nil rfl q
theorem pe_mkK (c : Ck X.prog X.w X.K X.mg X.base CX k C n ks sp) (hgd : X.A.guards = some []) (hr : Room j X.A) (hk : k + 1 ≤ j) (hg : Gl X x) (hm : X.mg x = some (.ref C)) (hx : Passes CX X E) (ha : PA X (e :: es) t) (hkw : PK X kws tk)
    (hall : (backToKw pos (keywordEach kws X.env)).all (·.1.isSome) = true := by rfl) (hks : (backToKw pos (keywordEach kws X.env)).filterMap (·.1) = ks := by rfl) (hdb : (x == ("__debug__" : Str)) = false := by decide)
    (he : starEach (e :: es) X.env = (false, eval e X.env) :: starEach es X.env := by rfl) (hpl : ((backTo pos (starEach (e :: es) X.env)).any (·.1) || (backToKw pos (keywordEach kws X.env)).any (·.1.isNone)) = false := by rfl) :
    PE X (.Call (.Name x p) (e :: es) kws pos) (tMk C ks.length sp E t tk) := by
  refine ⟨fun pins s σ H Q I h => ?_⟩
  refine wpAny_Call_Name_kw (ld_glob I hg hm ?_ hdb)
  have kp : PySem.W.keepIn X.K (.ref C) = true := let ⟨_, _, _, _, _, _, _, M, _⟩ := c.ex; M.kp
  refine PySem.W.callWith_KW (h₀ := X.base) I.ok.mod.kin kp hall (thn (ha.run pos pins s σ H _ I h) fun us s1 ⟨vs, H1, I1, r, q⟩ => ?_) hpl he
  refine thn (hkw.run pos pins s1 σ H1 _ I1 q) fun ws s2 ⟨zs, H2, I2, rz, l2, q2⟩ => ⟨I2.kIn, ?_⟩
  rw [hks]
  exact run_mk c hgd (hr.mono hk) hx I2 r rz l2 q2
theorem pe_mkK0 (c : Ck X.prog X.w X.K X.mg X.base CX k C 0 ks sp) (hgd : X.A.guards = some []) (hr : Room j X.A) (hk : k + 1 ≤ j) (hg : Gl X x) (hm : X.mg x = some (.ref C)) (hx : Passes CX X E) (hkw : PK X kws tk)
    (hall : (backToKw pos (keywordEach kws X.env)).all (·.1.isSome) = true := by rfl) (hks : (backToKw pos (keywordEach kws X.env)).filterMap (·.1) = ks := by rfl) (hdb : (x == ("__debug__" : Str)) = false := by decide)
    (hpl : ((backTo pos (starEach [] X.env)).any (·.1) || (backToKw pos (keywordEach kws X.env)).any (·.1.isNone)) = false := by rfl) :
    PE X (.Call (.Name x p) [] kws pos) (tMk C ks.length sp E tNil tk) := by
  refine ⟨fun pins s σ H Q I h => ?_⟩
  refine wpAny_Call_Name_kw (ld_glob I hg hm ?_ hdb)
  have kp : PySem.W.keepIn X.K (.ref C) = true := let ⟨_, _, _, _, _, _, _, M, _⟩ := c.ex; M.kp
  refine PySem.W.callWith_KW0 (h₀ := X.base) I.ok.mod.kin kp hall ?_ hpl
  refine thn (hkw.run pos pins s σ H _ I h) fun ws s2 ⟨zs, H2, I2, rz, l2, q2⟩ => ⟨I2.kIn, ?_⟩
  rw [hks]
  exact run_mk (us := []) (vs := []) c hgd (hr.mono hk) hx I2 .nil rz l2 q2
end
end L3

/-! readings over trees: expressions. -/
namespace L5
open PySem PySem.Spec PyProof.Rows L2 L3
abbrev AV := PV → Sto → Prop
abbrev ATE := AEnv → Sto → AV → Prop
abbrev ATT := AEnv → Sto → (Bool → Sto → Prop) → Prop
abbrev ATA := AEnv → Sto → (List PV → Sto → Prop) → Prop
abbrev A1 := PV → Sto → AV → Prop
abbrev A2 := PV → PV → Sto → AV → Prop
abbrev AL := List PV → Sto → AV → Prop
abbrev AM := PV → List PV → Sto → AV → Prop
/-- a new own object -/
structure newO (S : Sto) (o : AO) (P : AV) : Prop where
  h : P (.own S.length) (S ++ [o])
theorem r_new {S S' : Sto} {o : AO} {P : AV} {k : Nat} (e1 : S.length = k) (e2 : S ++ [o] = S') (h : P (.own k) S') : newO S o P := ⟨by subst e1 e2; exact h⟩
section
variable (K : PySem.W.Frag) (W : Wd)
def CE (P : AV) (Q : VK) : Prop := ∀ W' S v p H, W.Le W' → In K W' S H → VR K W'.I W'.ad v p → P p S → Q v H
def CT (P : Bool → Sto → Prop) (Q : Bool → Hp → Prop) : Prop := ∀ W' S b H, W.Le W' → In K W' S H → P b S → Q b H
def CA (P : List PV → Sto → Prop) (Q : List V → Hp → Prop) : Prop := ∀ W' S vs ps H, W.Le W' → In K W' S H → VRs K W'.I W'.ad vs ps → P ps S → Q vs H
end
section
variable (K : PySem.W.Frag)
structure SE (te : TE) (f : ATE) : Prop where
  run : ∀ {W S σ ρ H Q P}, In K W S H → ER K W σ ρ → f ρ S P → CE K W P Q → te σ H Q
structure STs (tt : TT) (f : ATT) : Prop where
  run : ∀ {W S σ ρ H Q P}, In K W S H → ER K W σ ρ → f ρ S P → CT K W P Q → tt σ H Q
structure SA (ta : TA) (f : ATA) : Prop where
  run : ∀ {W S σ ρ H Q P}, In K W S H → ER K W σ ρ → f ρ S P → CA K W P Q → ta σ H Q
structure S1 (r : V → Hp → VK → Prop) (f : A1) : Prop where
  run : ∀ {W S x p H Q P}, In K W S H → VR K W.I W.ad x p → f p S P → CE K W P Q → r x H Q
structure SO (r : R2) (f : A2) : Prop where
  run : ∀ {W S x y p q H Q P}, In K W S H → VR K W.I W.ad x p → VR K W.I W.ad y q → f p q S P → CE K W P Q → r x y H Q
structure SL (r : List V → Hp → VK → Prop) (f : AL) : Prop where
  run : ∀ {W S xs ps H Q P}, In K W S H → VRs K W.I W.ad xs ps → f ps S P → CE K W P Q → r xs H Q
structure SM (r : V → List V → Hp → VK → Prop) (f : AM) : Prop where
  run : ∀ {W S x p xs ps H Q P}, In K W S H → VR K W.I W.ad x p → VRs K W.I W.ad xs ps → f p ps S P → CE K W P Q → r x xs H Q
end
section
variable {K : PySem.W.Frag} {W W' : Wd} {S : Sto} {H : Hp} {P : AV} {Q : VK}
theorem CE.up (l : W.Le W') (c : CE K W P Q) : CE K W' P Q := fun W2 S v p H k I r h => c W2 S v p H (l.trans k) I r h
theorem CT.up {P : Bool → Sto → Prop} {Q : Bool → Hp → Prop} (l : W.Le W') (c : CT K W P Q) : CT K W' P Q := fun W2 S b H k I h => c W2 S b H (l.trans k) I h
theorem CA.up {P : List PV → Sto → Prop} {Q : List V → Hp → Prop} (l : W.Le W') (c : CA K W P Q) : CA K W' P Q := fun W2 S vs ps H k I r h => c W2 S vs ps H (l.trans k) I r h
theorem CE.at (c : CE K W P Q) (I : In K W S H) {v : V} {p : PV} (r : VR K W.I W.ad v p) (h : P p S) : Q v H := c W S v p H (.refl W) I r h
/-! what is made anew -/
theorem In.newT (I : In K W S H) {us : List V} {xs : List PV} (r : VRs K W.I W.ad us xs) (c : CE K W P Q) (h : P (.tup xs) S) : NewT us H Q := by
  obtain ⟨ps, O, gr⟩ := I.view
  refine O.newT fun p J H2 O2 e hp => ?_
  obtain ⟨I2, l⟩ := gr J H2 e O2
  exact c _ S _ _ H2 l I2 (.tup hp (r.up l.toLo)) h
theorem In.newL (I : In K W S H) {us : List V} {xs : List PV} (r : VRs K W.I W.ad us xs) (c : CE K W P Q) (h : P (.lst xs) S) : ∀ p, H p = none → Q (.ref p) (upd H p (.lst us)) := by
  obtain ⟨ps, O, gr⟩ := I.view
  refine O.newO fun p J H2 O2 e hp => ?_
  obtain ⟨I2, l⟩ := gr J H2 e O2
  exact c _ S _ _ H2 l I2 (.lst hp (r.up l.toLo)) h
theorem In.newO (I : In K W S H) {us : List V} {xs : List PV} (r : VRs K W.I W.ad us xs) (c : CE K W P Q) (h : newO S (.lst xs) P) : ∀ p, H p = none → Q (.ref p) (upd H p (.lst us)) := fun p hp => by
  obtain ⟨I2, l, r2⟩ := I.own hp r
  exact c _ _ _ _ _ l I2 r2 h.h
/-! lists, own or not -/
@[reducible] def aoL (o : AO) : Option (List PV) := match o with
  | .lst xs => some xs
  | _ => none
@[reducible] def aoD (o : AO) : Option (List Key × List PV) := match o with
  | .dct ks xs => some (ks, xs)
  | _ => none
@[reducible] def aoI (o : AO) : Option (Addr × List Str × List PV) := match o with
  | .ins C N xs => some (C, N, xs)
  | _ => none
@[reducible] def sget : Sto → Nat → Option (List PV)
  | [], _ => none
  | o :: _, 0 => aoL o
  | _ :: r, n + 1 => sget r n
@[reducible] def sgetD : Sto → Nat → Option (List Key × List PV)
  | [], _ => none
  | o :: _, 0 => aoD o
  | _ :: r, n + 1 => sgetD r n
@[reducible] def sgetI : Sto → Nat → Option (Addr × List Str × List PV)
  | [], _ => none
  | o :: _, 0 => aoI o
  | _ :: r, n + 1 => sgetI r n
@[reducible] def spo : Sto → Nat → AO → Sto
  | [], _, _ => []
  | _ :: r, 0, x => x :: r
  | o :: r, n + 1, x => o :: spo r n x
theorem spo_eq : ∀ (S : Sto) (k : Nat) (x : AO), spo S k x = S.set k x
  | [], _, _ => rfl
  | _ :: r, 0, x => rfl
  | o :: r, n + 1, x => by
    show o :: spo r n x = o :: r.set n _
    rw [spo_eq r n x]
theorem sgetD_eq : ∀ {S : Sto} {k : Nat} {ks : List Key} {xs : List PV}, sgetD S k = some (ks, xs) → S[k]? = some (.dct ks xs)
  | [], _, _, _, h => by cases h
  | .dct _ ys :: _, 0, ks, xs, h => by cases h; rfl
  | .lst _ :: _, 0, ks, xs, h => by cases h
  | .ins _ _ _ :: _, 0, ks, xs, h => by cases h
  | _ :: r, n + 1, ks, xs, h => sgetD_eq (S := r) h
theorem sgetI_eq : ∀ {S : Sto} {k : Nat} {C : Addr} {N : List Str} {xs : List PV}, sgetI S k = some (C, N, xs) → S[k]? = some (.ins C N xs)
  | [], _, _, _, _, h => by cases h
  | .ins _ _ ys :: _, 0, C, N, xs, h => by cases h; rfl
  | .lst _ :: _, 0, C, N, xs, h => by cases h
  | .dct _ _ :: _, 0, C, N, xs, h => by cases h
  | _ :: r, n + 1, C, N, xs, h => sgetI_eq (S := r) h
@[reducible] def sput : Sto → Nat → List PV → Sto
  | [], _, _ => []
  | _ :: r, 0, xs => .lst xs :: r
  | o :: r, n + 1, xs => o :: sput r n xs
theorem sget_eq : ∀ {S : Sto} {k : Nat} {xs : List PV}, sget S k = some xs → S[k]? = some (.lst xs)
  | [], _, _, h => by cases h
  | .lst ys :: _, 0, xs, h => by cases h; rfl
  | .dct _ _ :: _, 0, xs, h => by cases h
  | .ins _ _ _ :: _, 0, xs, h => by cases h
  | _ :: r, n + 1, xs, h => sget_eq (S := r) h
theorem sput_eq : ∀ (S : Sto) (k : Nat) (xs : List PV), sput S k xs = S.set k (.lst xs)
  | [], _, _ => rfl
  | _ :: r, 0, xs => rfl
  | o :: r, n + 1, xs => by
    show o :: sput r n xs = o :: r.set n _
    rw [sput_eq r n xs]
@[reducible] def lv (p : PV) (S : Sto) : Option (List PV) := match p with
  | .lst xs => some xs
  | .scr ns => some (ns.map .int)
  | .own k => sget S k
  | _ => none
@[reducible] def sq (p : PV) (S : Sto) : Option (List PV) := match p with
  | .tup xs => some xs
  | .kt xs => some xs
  | .lst xs => some xs
  | .scr ns => some (ns.map .int)
  | .own k => sget S k
  | _ => none
theorem VR.lv (I : In K W S H) {v : V} {p : PV} (r : VR K W.I W.ad v p) {xs : List PV} (e : lv p S = some xs) : ∃ a us, v = .ref a ∧ SqL K H a us ∧ VRs K W.I W.ad us xs := by
  cases r with
  | lst h hs => cases e; exact ⟨_, _, rfl, SqL.of (I.exH _ _ h), hs⟩
  | scr h => cases e; exact ⟨_, _, rfl, SqL.up I.exH h, VRs.ints _⟩
  | own h =>
    obtain ⟨a, us, e1, e2, hs, _⟩ := I.at (.own h) (sget_eq e)
    cases e1
    exact ⟨_, _, rfl, SqL.of e2, hs⟩
  | _ => cases e
theorem VR.tupS (I : In K W S H) {v : V} {xs : List PV} (r : VR K W.I W.ad v (.tup xs)) : ∃ a us, v = .ref a ∧ SqT K H a us ∧ VRs K W.I W.ad us xs := by
  cases r with
  | tup h hs => exact ⟨_, _, rfl, TupF.sq (TupF.up I.exH h), hs⟩
theorem VR.sq (I : In K W S H) {v : V} {p : PV} (r : VR K W.I W.ad v p) {xs : List PV} (e : sq p S = some xs) : ∃ a us, v = .ref a ∧ (SqL K H a us ∨ SqT K H a us) ∧ VRs K W.I W.ad us xs := by
  cases p with
  | tup ys =>
    cases e
    obtain ⟨a, us, h1, h2, h3⟩ := r.tupS I
    exact ⟨a, us, h1, .inr h2, h3⟩
  | lst ys => obtain ⟨a, us, h1, h2, h3⟩ := r.lv I (xs := xs) e; exact ⟨a, us, h1, .inl h2, h3⟩
  | scr ys => obtain ⟨a, us, h1, h2, h3⟩ := r.lv I (xs := xs) e; exact ⟨a, us, h1, .inl h2, h3⟩
  | own ys => obtain ⟨a, us, h1, h2, h3⟩ := r.lv I (xs := xs) e; exact ⟨a, us, h1, .inl h2, h3⟩
  | kt ys =>
    cases e
    exact (match r with
      | .kt h hs => ⟨_, _, rfl, .inr h.sq, hs⟩)
  | _ => cases e
/-- two ways -/
structure br (c : Bool) (A B : Prop) : Prop where
  t : c = true → A
  f : c = false → B
/-! expressions -/
@[reducible] def aVar (i : Nat) : ATE := fun ρ S P => match look ρ i with
  | some p => P p S
  | none => False
@[reducible] def aC (p : PV) : ATE := fun _ S P => P p S
@[reducible] def aOp (f : A2) (a b : ATE) : ATE := fun ρ S P => a ρ S fun x S1 => b ρ S1 fun y S2 => f x y S2 P
@[reducible] def aUn (f : A1) (a : ATE) : ATE := fun ρ S P => a ρ S fun x S1 => f x S1 P
@[reducible] def onB (p : PV) (P : Bool → Prop) : Prop := match p with
  | .bl c => P c
  | _ => False
theorem VR.onB {v : V} {p : PV} {I : Hp} {ad : List Addr} (r : VR K I ad v p) {P : Bool → Prop} (h : onB p P) : ∃ c, v = .bl c ∧ P c := by
  cases r with
  | bl b => exact ⟨b, rfl, h⟩
  | _ => exact h.elim
@[reducible] def aNotV (a : ATE) : ATE := fun ρ S P => a ρ S fun x S1 => onB x fun c => P (.bl (!c)) S1
@[reducible] def aAndV (a b : ATE) : ATE := fun ρ S P => a ρ S fun x S1 => onB x fun c => br c (b ρ S1 P) (P (.bl false) S1)
@[reducible] def aOrV (a b : ATE) : ATE := fun ρ S P => a ρ S fun x S1 => onB x fun c => br c (P (.bl true) S1) (b ρ S1 P)
@[reducible] def aIf (t : ATT) (a b : ATE) : ATE := fun ρ S P => t ρ S fun c S1 => br c (a ρ S1 P) (b ρ S1 P)
@[reducible] def aChain (f g : A2) (a b c : ATE) : ATE := fun ρ S P => a ρ S fun x S1 => b ρ S1 fun y S2 => f x y S2 fun z S3 => onB z fun k => br k (c ρ S3 fun w S4 => g y w S4 P) (P (.bl false) S3)
def aJoinE (a : ATE) : ATE := fun ρ S P => ∃ M : AV, a ρ S M ∧ ∀ p S1, M p S1 → P p S1
@[reducible] def aNil : ATA := fun _ S P => P [] S
@[reducible] def aCons (a : ATE) (r : ATA) : ATA := fun ρ S P => a ρ S fun x S1 => r ρ S1 fun xs S2 => P (x :: xs) S2
inductive onL (o : Option (List PV)) (P : List PV → Prop) : Prop where
  | mk (xs : List PV) (e : o = some xs) (h : P xs) : onL o P
theorem onL_of {o : Option (List PV)} {P : List PV → Prop} (h : onL o P) : ∃ xs, o = some xs ∧ P xs := by
  cases h with
  | mk xs e h => exact ⟨xs, e, h⟩
@[reducible] def aStar (a : ATE) (r : ATA) : ATA := fun ρ S P => a ρ S fun x S1 => onL (sq x S1) fun xs => r ρ S1 fun ys S2 => P (xs ++ ys) S2
@[reducible] def aTup (t : ATA) : ATE := fun ρ S P => t ρ S fun xs S1 => xs.length ≤ sizeLine ∧ P (.tup xs) S1
@[reducible] def aLst (t : ATA) : ATE := fun ρ S P => t ρ S fun xs S1 => xs.length ≤ sizeLine ∧ P (.lst xs) S1
@[reducible] def aLstO (t : ATA) : ATE := fun ρ S P => t ρ S fun xs S1 => xs.length ≤ sizeLine ∧ newO S1 (.lst xs) P
variable {te ta tb tc : TE} {f fa fb fc : ATE} {tt : TT} {ft : ATT} {t : TA} {fs : ATA}
theorem se_var {i : Nat} : SE K (tVar i) (aVar i) := ⟨fun {W S σ ρ H Q P} I E h c => by
  unfold aVar at h
  cases e : look ρ i with
  | none => rw [e] at h; exact h.elim
  | some p =>
    rw [e] at h
    obtain ⟨v, h1, h2⟩ := E.look e
    exact ⟨v, h1, c.at I h2 h⟩⟩
theorem se_int {i : Int} : SE K (tC (.int i)) (aC (.int i)) := ⟨fun I _ h c => c.at I (.int i) h⟩
theorem se_bl {i : Bool} : SE K (tC (.bl i)) (aC (.bl i)) := ⟨fun I _ h c => c.at I (.bl i) h⟩
theorem se_non : SE K (tC .non) (aC .non) := ⟨fun I _ h c => c.at I .non h⟩
theorem se_str {i : Str} : SE K (tC (.str i)) (aC (.str i)) := ⟨fun I _ h c => c.at I (.str i) h⟩
theorem se_op {r : R2} {g : A2} (hr : SO K r g) (ha : SE K ta fa) (hb : SE K tb fb) : SE K (tOp r ta tb) (aOp g fa fb) := ⟨fun I E h c =>
  ha.run I E h fun W1 S1 x p H1 l1 I1 r1 h1 => hb.run I1 (E.up l1.toLo) h1 fun W2 S2 y q H2 l2 I2 r2 h2 => hr.run I2 (r1.up l2.toLo) r2 h2 (c.up (l1.trans l2))⟩
theorem se_un {r : V → Hp → VK → Prop} {g : A1} (hr : S1 K r g) (ha : SE K ta fa) : SE K (tUn r ta) (aUn g fa) := ⟨fun I E h c =>
  ha.run I E h fun W1 S1 x p H1 l1 I1 r1 h1 => hr.run I1 r1 h1 (c.up l1)⟩
theorem se_notV (ha : SE K ta fa) : SE K (tNotV ta) (aNotV fa) := ⟨fun I E h c =>
  ha.run I E h fun W1 S1 x p H1 l1 I1 r1 h1 => by
    obtain ⟨k, e, h2⟩ := r1.onB h1
    exact ⟨k, e, c _ _ _ _ _ l1 I1 (.bl _) h2⟩⟩
theorem se_andV (ha : SE K ta fa) (hb : SE K tb fb) : SE K (tAndV ta tb) (aAndV fa fb) := ⟨fun I E h c =>
  ha.run I E h fun W1 S1 x p H1 l1 I1 r1 h1 => by
    obtain ⟨k, e, h2⟩ := r1.onB h1
    refine ⟨k, e, ?_⟩
    cases k with
    | true => rw [if_pos rfl]; exact hb.run I1 (E.up l1.toLo) (h2.t rfl) (c.up l1)
    | false => rw [if_neg Bool.false_ne_true]; exact c _ _ _ _ _ l1 I1 (.bl _) (h2.f rfl)⟩
theorem se_orV (ha : SE K ta fa) (hb : SE K tb fb) : SE K (tOrV ta tb) (aOrV fa fb) := ⟨fun I E h c =>
  ha.run I E h fun W1 S1 x p H1 l1 I1 r1 h1 => by
    obtain ⟨k, e, h2⟩ := r1.onB h1
    refine ⟨k, e, ?_⟩
    cases k with
    | true => rw [if_pos rfl]; exact c _ _ _ _ _ l1 I1 (.bl _) (h2.t rfl)
    | false => rw [if_neg Bool.false_ne_true]; exact hb.run I1 (E.up l1.toLo) (h2.f rfl) (c.up l1)⟩
theorem se_if (ht : STs K tt ft) (ha : SE K ta fa) (hb : SE K tb fb) : SE K (tIf tt ta tb) (aIf ft fa fb) := ⟨fun I E h c =>
  ht.run I E h fun W1 S1 k H1 l1 I1 h1 => by
    cases k with
    | true => rw [if_pos rfl]; exact ha.run I1 (E.up l1.toLo) (h1.t rfl) (c.up l1)
    | false => rw [if_neg Bool.false_ne_true]; exact hb.run I1 (E.up l1.toLo) (h1.f rfl) (c.up l1)⟩
theorem se_chain {r r' : R2} {g g' : A2} (hr : SO K r g) (hr' : SO K r' g') (ha : SE K ta fa) (hb : SE K tb fb) (hc : SE K tc fc) : SE K (tChain r r' ta tb tc) (aChain g g' fa fb fc) := ⟨fun {W S σ ρ H Q P} I E h c =>
  ha.run I E h fun W1 S1 x p H1 l1 I1 r1 h1 => hb.run I1 (E.up l1.toLo) h1 fun W2 S2 y q H2 l2 I2 r2 h2 => hr.run I2 (r1.up l2.toLo) r2 h2 fun W3 S3 z pz H3 l3 I3 r3 h3 => by
    have l := (l1.trans l2).trans l3
    obtain ⟨k, e, h4⟩ := r3.onB h3
    refine ⟨k, e, ?_⟩
    cases k with
    | true =>
      rw [if_pos rfl]
      exact hc.run I3 (E.up l.toLo) (h4.t rfl) fun W4 S4 w pw H4 l4 I4 r4 h5 => hr'.run I4 (r2.up (l3.trans l4).toLo) r4 h5 (c.up (l.trans l4))
    | false => rw [if_neg Bool.false_ne_true]; exact c _ _ _ _ _ l I3 (.bl _) (h4.f rfl)⟩
theorem se_join (ha : SE K ta fa) : SE K (tJoinE ta) (aJoinE fa) := ⟨fun {W S σ ρ H Q P} I E ⟨M, h, k⟩ c =>
  ⟨Q, ha.run I E h fun W1 S1 x p H1 l1 I1 r1 h1 => c _ _ _ _ _ l1 I1 r1 (k p S1 h1), fun _ _ q => q⟩⟩
theorem sa_nil : SA K tNil aNil := ⟨fun I _ h c => c _ _ _ _ _ (.refl _) I .nil h⟩
theorem sa_cons (ha : SE K ta fa) (hr : SA K t fs) : SA K (tCons ta t) (aCons fa fs) := ⟨fun I E h c =>
  ha.run I E h fun W1 S1 x p H1 l1 I1 r1 h1 => hr.run I1 (E.up l1.toLo) h1 fun W2 S2 xs ps H2 l2 I2 r2 h2 => c _ _ _ _ _ (l1.trans l2) I2 (.cons (r1.up l2.toLo) r2) h2⟩
theorem sa_star (ha : SE K ta fa) (hr : SA K t fs) : SA K (tStar K ta t) (aStar fa fs) := ⟨fun I E h c =>
  ha.run I E h fun W1 S1 x p H1 l1 I1 r1 h1 => by
    obtain ⟨xs, e, h2⟩ := onL_of h1
    obtain ⟨a, us, e2, hq, rs⟩ := r1.sq I1 e
    refine ⟨a, us, e2, hq.symm, ?_⟩
    exact hr.run I1 (E.up l1.toLo) h2 fun W2 S2 ys ps H2 l2 I2 r2 h3 => c _ _ _ _ _ (l1.trans l2) I2 ((rs.up l2.toLo).append r2) h3⟩
theorem se_tup (hr : SA K t fs) : SE K (tTupF t) (aTup fs) := ⟨fun I E h c =>
  hr.run I E h fun W1 S1 xs ps H1 l1 I1 r1 ⟨hz, h1⟩ => ⟨by rw [r1.length]; exact hz, I1.newT r1 (c.up l1) h1⟩⟩
theorem se_lst (hr : SA K t fs) : SE K (tLst t) (aLst fs) := ⟨fun I E h c =>
  hr.run I E h fun W1 S1 xs ps H1 l1 I1 r1 ⟨hz, h1⟩ => ⟨by rw [r1.length]; exact hz, I1.newL r1 (c.up l1) h1⟩⟩
theorem se_lstO (hr : SA K t fs) : SE K (tLst t) (aLstO fs) := ⟨fun I E h c =>
  hr.run I E h fun W1 S1 xs ps H1 l1 I1 r1 ⟨hz, h1⟩ => ⟨by rw [r1.length]; exact hz, I1.newO r1 (c.up l1) h1⟩⟩
/-! tests -/
@[reducible] def aTest (a : ATE) : ATT := fun ρ S P => a ρ S fun x S1 => onB x fun c => P c S1
@[reducible] def aAnd (a b : ATT) : ATT := fun ρ S P => a ρ S fun c S1 => br c (b ρ S1 P) (P false S1)
@[reducible] def aOr (a b : ATT) : ATT := fun ρ S P => a ρ S fun c S1 => br c (P true S1) (b ρ S1 P)
@[reducible] def aNot (a : ATT) : ATT := fun ρ S P => a ρ S fun c S1 => P (!c) S1
@[reducible] def aYes : ATT := fun _ S P => P true S
@[reducible] def truth (p : PV) (S : Sto) (P : Bool → Prop) : Prop := match p with
  | .non => P false
  | .bl c => P c
  | .int i => P (i != 0)
  | .tup xs => P (!xs.isEmpty)
  | .lst xs => P (!xs.isEmpty)
  | .own k => onL (sget S k) fun xs => P (!xs.isEmpty)
  | _ => False
@[reducible] def aTruth (a : ATE) : ATT := fun ρ S P => a ρ S fun x S1 => truth x S1 fun c => P c S1
variable {t1 t2 : TT} {f1 f2 : ATT}
theorem st_test (ha : SE K ta fa) : STs K (tTest ta) (aTest fa) := ⟨fun I E h c =>
  ha.run I E h fun W1 S1 x p H1 l1 I1 r1 h1 => by
    obtain ⟨k, e, h2⟩ := r1.onB h1
    exact ⟨k, e, c _ _ _ _ l1 I1 h2⟩⟩
theorem st_and (ha : STs K t1 f1) (hb : STs K t2 f2) : STs K (tAnd t1 t2) (aAnd f1 f2) := ⟨fun I E h c =>
  ha.run I E h fun W1 S1 k H1 l1 I1 h1 => by
    cases k with
    | true => rw [if_pos rfl]; exact hb.run I1 (E.up l1.toLo) (h1.t rfl) (c.up l1)
    | false => rw [if_neg Bool.false_ne_true]; exact c _ _ _ _ l1 I1 (h1.f rfl)⟩
theorem st_or (ha : STs K t1 f1) (hb : STs K t2 f2) : STs K (tOr t1 t2) (aOr f1 f2) := ⟨fun I E h c =>
  ha.run I E h fun W1 S1 k H1 l1 I1 h1 => by
    cases k with
    | true => rw [if_pos rfl]; exact c _ _ _ _ l1 I1 (h1.t rfl)
    | false => rw [if_neg Bool.false_ne_true]; exact hb.run I1 (E.up l1.toLo) (h1.f rfl) (c.up l1)⟩
theorem st_not (ha : STs K t1 f1) : STs K (tNot t1) (aNot f1) := ⟨fun I E h c => ha.run I E h fun W1 S1 k H1 l1 I1 h1 => c _ _ _ _ l1 I1 h1⟩
theorem st_yes : STs K tYes aYes := ⟨fun I _ h c => c _ _ _ _ (.refl _) I h⟩
theorem VRs.empty {I : Hp} {ad : List Addr} {us : List V} {xs : List PV} (r : VRs K I ad us xs) : us.isEmpty = xs.isEmpty := by cases r <;> rfl
theorem st_truth (ha : SE K ta fa) : STs K (tTruth K ta) (aTruth fa) := ⟨fun {W S σ ρ H Q P} I E h c =>
  ha.run I E h fun W1 S1 x p H1 l1 I1 r1 h1 => by
    have go : ∀ k, TruV K x H1 k → P k S1 → ∃ k, TruV K x H1 k ∧ Q k H1 := fun k a b => ⟨k, a, c _ _ _ _ l1 I1 b⟩
    have r0 := r1
    cases r1 with
    | non => exact go _ rfl h1
    | bl b => exact go _ rfl h1
    | int i => exact go _ rfl h1
    | tup h hs =>
      obtain ⟨a, us, e, h2, h3⟩ := r0.tupS I1
      cases e
      exact go _ (.inr (.inl ⟨us, h2, by rw [h3.empty]⟩)) h1
    | lst h hs =>
      obtain ⟨a, us, e, h2, h3⟩ := r0.lv I1 rfl
      cases e
      exact go _ (.inl ⟨us, h2, by rw [h3.empty]⟩) h1
    | own h =>
      obtain ⟨xs, e, h2⟩ := onL_of h1
      obtain ⟨a, us, e2, h3, h4⟩ := r0.lv I1 (xs := xs) e
      cases e2
      exact go _ (.inl ⟨us, h3, by rw [h4.empty]⟩) h2
    | _ => exact h1.elim⟩
end
end L5

/-! readings over trees: operations by values. -/
namespace L5
open PySem PySem.Spec PyProof.Rows L2 L3
section
variable {X : Cx}
def rAddF (K : PySem.W.Frag) : R2 := fun x y H Q => rI0 (fun i j => .int (i + j)) x y H Q ∨ rCatF K x y H Q ∨ rCat x y H Q ∨ (∃ i j, x = .str i ∧ y = .str j ∧ i.length + j.length ≤ sizeLine ∧ Q (.str (i ++ j)) H)
theorem kAddF {K : PySem.W.Frag} (hK : X.K = K := by rfl) : OpR X (binaryOp .Add) (rAddF K) := hK ▸ op_add.or (op_catF.or (op_cat.or op_add_str))
def rMulG (K : PySem.W.Frag) : R2 := fun x y H Q => rMulF K x y H Q ∨ rRep x y H Q
theorem kMulG {K : PySem.W.Frag} (hK : X.K = K := by rfl) : OpR X (binaryOp .Mult) (rMulG K) := (kMulF hK).or op_rep
def rSlG (K : PySem.W.Frag) : V → Option Int → Option Int → Hp → VK → Prop := fun x lo hi H Q => rSlL K x lo hi H Q ∨ rSlF K x lo hi H Q
theorem kSlG {K : PySem.W.Frag} (hK : X.K = K := by rfl) : SlR X (rSlG K) := hK ▸ sl_list.or sl_tupF
theorem kDivmodF : CallR X (.builtin "divmod") rDivmodF := call_divmodF
end
@[reducible] def onI (x : PV) (P : Int → Prop) : Prop := match x with
  | .int i => P i
  | _ => False
@[reducible] def onI2 (x y : PV) (P : Int → Int → Prop) : Prop := onI x fun i => onI y fun j => P i j
def onO {α : Type} (o : Option α) (P : α → Prop) : Prop := ∃ v, o = some v ∧ P v
section
variable {K : PySem.W.Frag} {W W' : Wd} {S : Sto} {H : Hp} {P : AV} {Q : VK} {I : Hp} {ad : List Addr}
theorem VR.onI {v : V} {p : PV} (r : VR K I ad v p) {P : Int → Prop} (h : onI p P) : ∃ i, v = .int i ∧ p = .int i ∧ P i := by
  cases r with
  | int i => exact ⟨i, rfl, rfl, h⟩
  | _ => exact h.elim
theorem VR.onI2 {v w : V} {p q : PV} (r : VR K I ad v p) (r2 : VR K I ad w q) {P : Int → Int → Prop} (h : onI2 p q P) : ∃ i j, v = .int i ∧ w = .int j ∧ P i j := by
  obtain ⟨i, e, _, h⟩ := r.onI h
  obtain ⟨j, e2, _, h⟩ := r2.onI h
  exact ⟨i, j, e, e2, h⟩
@[reducible] def vI0 (g : Int → Int → Int) : A2 := fun x y S P => onI2 x y fun i j => P (.int (g i j)) S
@[reducible] def vI0b (g : Int → Int → Bool) : A2 := fun x y S P => onI2 x y fun i j => P (.bl (g i j)) S
@[reducible] def vI (C : Int → Int → Prop) (g : Int → Int → Int) : A2 := fun x y S P => onI2 x y fun i j => C i j ∧ P (.int (g i j)) S
theorem so_I0 {g : Int → Int → Int} : SO K (rI0 fun i j => .int (g i j)) (vI0 g) := ⟨fun I r1 r2 h c => by
  obtain ⟨i, j, e, e2, h⟩ := r1.onI2 r2 h
  exact ⟨i, j, e, e2, c.at I (.int _) h⟩⟩
theorem so_I0b {g : Int → Int → Bool} : SO K (rI0 fun i j => .bl (g i j)) (vI0b g) := ⟨fun I r1 r2 h c => by
  obtain ⟨i, j, e, e2, h⟩ := r1.onI2 r2 h
  exact ⟨i, j, e, e2, c.at I (.bl _) h⟩⟩
theorem so_I {C : Int → Int → Prop} {g : Int → Int → Int} : SO K (rI C fun i j => .int (g i j)) (vI C g) := ⟨fun I r1 r2 h c => by
  obtain ⟨i, j, e, e2, hc, h⟩ := r1.onI2 r2 h
  exact ⟨i, j, e, e2, hc, c.at I (.int _) h⟩⟩
theorem s1_neg {g : Int → Int} : S1 K (rU fun i => .int (g i)) (fun x S P => onI x fun i => P (.int (g i)) S) := ⟨fun I r h c => by
  obtain ⟨i, e, _, h⟩ := r.onI h
  exact ⟨i, e, c.at I (.int _) h⟩⟩
@[reducible] def vSub : A2 := fun x y S P => onI2 x y fun i j => P (.int (i - j)) S
@[reducible] def vAddI : A2 := fun x y S P => onI2 x y fun i j => P (.int (i + j)) S
@[reducible] def vMulI : A2 := fun x y S P => onI2 x y fun i j => CMul i j ∧ P (.int (i * j)) S
@[reducible] def vFdiv : A2 := fun x y S P => onI2 x y fun i j => CDiv i j ∧ P (.int (i / j)) S
@[reducible] def vMod : A2 := fun x y S P => onI2 x y fun i j => 0 < j ∧ P (.int (i % j)) S
@[reducible] def vPow : A2 := fun x y S P => onI2 x y fun i j => CPow i j ∧ P (.int (i ^ j.toNat)) S
@[reducible] def vLt : A2 := fun x y S P => onI2 x y fun i j => P (.bl (decide (i < j))) S
@[reducible] def vLe : A2 := fun x y S P => onI2 x y fun i j => P (.bl (decide (i ≤ j))) S
@[reducible] def vGt : A2 := fun x y S P => onI2 x y fun i j => P (.bl (decide (j < i))) S
@[reducible] def vGe : A2 := fun x y S P => onI2 x y fun i j => P (.bl (decide (j ≤ i))) S
@[reducible] def vNeg : A1 := fun x S P => onI x fun i => P (.int (-i)) S
theorem so_sub : SO K (rI0 fun i j => .int (i - j)) vSub := so_I0
theorem so_addI : SO K (rI0 fun i j => .int (i + j)) vAddI := so_I0
theorem so_mulI : SO K (rI CMul fun i j => .int (i * j)) vMulI := so_I
theorem so_fdiv : SO K (rI CDiv fun i j => .int (i / j)) vFdiv := so_I
theorem so_mod : SO K (rI (fun _ j => 0 < j) fun i j => .int (i % j)) vMod := so_I
theorem so_pow : SO K (rI CPow fun i j => .int (i ^ j.toNat)) vPow := so_I
theorem so_lt : SO K (rI0 fun i j => .bl (decide (i < j))) vLt := so_I0b
theorem so_le : SO K (rI0 fun i j => .bl (decide (i ≤ j))) vLe := so_I0b
theorem so_gt : SO K (rI0 fun i j => .bl (decide (j < i))) vGt := so_I0b
theorem so_ge : SO K (rI0 fun i j => .bl (decide (j ≤ i))) vGe := so_I0b
theorem s1_neg1 : S1 K (rU fun i => .int (-i)) vNeg := s1_neg
/-- a tracked list -/
theorem VR.lstH (I : In K W S H) {v : V} {p : PV} (r : VR K W.I W.ad v p) {xs : List PV} (e : L5.lv p S = some xs) (hn : ∀ ns, p ≠ .scr ns) : ∃ a us, v = .ref a ∧ H a = some (.lst us) ∧ VRs K W.I W.ad us xs := by
  cases r with
  | lst h hs => cases e; exact ⟨_, _, rfl, I.exH _ _ h, hs⟩
  | scr h => exact (hn _ rfl).elim
  | own h =>
    obtain ⟨a, us, e1, e2, hs, _⟩ := I.at (.own h) (sget_eq e)
    cases e1
    exact ⟨_, _, rfl, e2, hs⟩
  | _ => cases e
@[reducible] def onS (x : PV) (P : Str → Prop) : Prop := match x with
  | .str i => P i
  | _ => False
@[reducible] def onT (x : PV) (P : List PV → Prop) : Prop := match x with
  | .tup xs => P xs
  | _ => False
theorem VR.onS {v : V} {p : PV} (r : VR K I ad v p) {P : Str → Prop} (h : onS p P) : ∃ i, v = .str i ∧ p = .str i ∧ P i := by
  cases r with
  | str i => exact ⟨i, rfl, rfl, h⟩
  | _ => exact h.elim
theorem VR.onT {v : V} {p : PV} (r : VR K I ad v p) {P : List PV → Prop} (h : onT p P) : ∃ xs, p = .tup xs ∧ P xs := by
  cases r with
  | tup _ _ => exact ⟨_, rfl, h⟩
  | _ => exact h.elim
/-- a list that is no script -/
@[reducible] def lw (p : PV) (S : Sto) : Option (List PV) := match p with
  | .lst xs => some xs
  | .own k => sget S k
  | _ => none
theorem VR.lw (I : In K W S H) {v : V} {p : PV} (r : VR K W.I W.ad v p) {xs : List PV} (e : lw p S = some xs) : ∃ a us, v = .ref a ∧ H a = some (.lst us) ∧ VRs K W.I W.ad us xs := by
  cases p with
  | lst ys => exact r.lstH I e (fun _ z => nomatch z)
  | own k => exact r.lstH I e (fun _ z => nomatch z)
  | _ => cases e
@[reducible] def vAdd : A2 := fun x y S P => match x with
  | .int i => onI y fun j => P (.int (i + j)) S
  | .str i => onS y fun j => i.length + j.length ≤ sizeLine ∧ P (.str (i ++ j)) S
  | .tup xs => onT y fun ys => xs.length + ys.length ≤ sizeLine ∧ P (.tup (xs ++ ys)) S
  | _ => onL (lw x S) fun xs => onL (lw y S) fun ys => xs.length + ys.length ≤ sizeLine ∧ P (.lst (xs ++ ys)) S
theorem so_add : SO K (rAddF K) vAdd := ⟨fun {W S x y p q H Q P} I r1 r2 h c => by
  have go : (onL (L5.lw p S) fun xs => onL (L5.lw q S) fun ys => xs.length + ys.length ≤ sizeLine ∧ P (.lst (xs ++ ys)) S) → rAddF K x y H Q := fun h => by
    obtain ⟨xs, e, h⟩ := onL_of h
    obtain ⟨ys, e2, hz, h⟩ := onL_of h
    obtain ⟨a, us, rfl, ha, ra⟩ := r1.lw I e
    obtain ⟨b, ws, rfl, hb, rb⟩ := r2.lw I e2
    exact .inr (.inr (.inl ⟨a, b, us, ws, rfl, rfl, ha, hb, by rw [ra.length, rb.length]; exact hz, I.newL (ra.append rb) c h⟩))
  cases p with
  | int i =>
    obtain ⟨j, rfl, _, h⟩ := r2.onI h
    cases r1
    exact .inl ⟨_, _, rfl, rfl, c.at I (.int _) h⟩
  | str i =>
    obtain ⟨j, rfl, _, h⟩ := r2.onS h
    cases r1
    exact .inr (.inr (.inr ⟨_, _, rfl, rfl, h.1, c.at I (.str _) h.2⟩))
  | tup xs =>
    obtain ⟨ys, rfl, h⟩ := r2.onT h
    obtain ⟨a, us, rfl, ha, ra⟩ := r1.tupS I
    obtain ⟨b, ws, rfl, hb, rb⟩ := r2.tupS I
    obtain ⟨hz, h⟩ := h
    refine .inr (.inl ⟨a, b, us, ws, rfl, rfl, ha, hb, by rw [ra.length, rb.length]; exact hz, fun e => ?_, fun _ e => ?_, fun _ _ => I.newT (ra.append rb) c h⟩)
    · subst e
      cases ra
      exact c.at I r2 h
    · subst e
      cases rb
      rw [List.append_nil] at h
      exact c.at I r1 h
  | _ => exact go h⟩
@[reducible] def vMul : A2 := fun x y S P => match x with
  | .int i => onI y fun j => CMul i j ∧ P (.int (i * j)) S
  | .tup xs => onI y fun k => xs ≠ [] ∧ -1000 ≤ k ∧ k ≤ 1000 ∧ xs.length ≤ 1000 ∧ P (.tup (List.replicate k.toNat xs).flatten) S
  | .lst xs => onI y fun k => -(2 ^ 63) ≤ k ∧ k < 2 ^ 63 ∧ xs.length * k.toNat ≤ sizeLine ∧ P (.lst (List.replicate k.toNat xs).flatten) S
  | _ => False
theorem so_mul : SO K (rMulG K) vMul := ⟨fun {W S x y p q H Q P} I r1 r2 h c => by
  cases p with
  | int i =>
    obtain ⟨j, rfl, _, h⟩ := r2.onI h
    cases r1
    exact .inl (.inl ⟨_, _, rfl, rfl, h.1, c.at I (.int _) h.2⟩)
  | tup xs =>
    obtain ⟨k, rfl, _, h⟩ := r2.onI h
    obtain ⟨a, us, rfl, ha, ra⟩ := r1.tupS I
    obtain ⟨h1, h2, h3, h4, h5⟩ := h
    refine .inl (.inr ⟨a, k, us, rfl, rfl, ha, fun e => h1 (by subst e; cases ra; rfl), h2, h3, by rw [ra.length]; exact h4, fun e => ?_, fun _ => I.newT (ra.flat _) c h5⟩)
    subst e
    have : (List.replicate (1 : Int).toNat xs).flatten = xs := by simp
    rw [this] at h5
    exact c.at I r1 h5
  | lst xs =>
    obtain ⟨k, rfl, _, h⟩ := r2.onI h
    obtain ⟨a, us, rfl, ha, ra⟩ := r1.lstH I rfl (fun _ e => nomatch e)
    obtain ⟨h1, h2, h3, h4⟩ := h
    exact .inr ⟨a, k, us, rfl, rfl, ha, h1, h2, by rw [ra.length]; exact h3, I.newL (ra.flat _) c h4⟩
  | _ => exact h.elim⟩
/-- [x] * n, to be changed -/
@[reducible] def vMulO : A2 := fun x y S P => match x with
  | .lst xs => onI y fun k => -(2 ^ 63) ≤ k ∧ k < 2 ^ 63 ∧ xs.length * k.toNat ≤ sizeLine ∧ newO S (.lst (List.replicate k.toNat xs).flatten) P
  | _ => False
theorem so_mulO : SO K (rMulG K) vMulO := ⟨fun {W S x y p q H Q P} I r1 r2 h c => by
  cases p with
  | lst xs =>
    obtain ⟨k, rfl, _, h⟩ := r2.onI h
    obtain ⟨a, us, rfl, ha, ra⟩ := r1.lstH I rfl (fun _ e => nomatch e)
    obtain ⟨h1, h2, h3, h4⟩ := h
    exact .inr ⟨a, k, us, rfl, rfl, ha, h1, h2, by rw [ra.length]; exact h3, I.newO (ra.flat _) c h4⟩
  | _ => exact h.elim⟩
/-! data -/
mutual
def dat : PV → PyData
  | .non => .none
  | .bl b => .bool b
  | .int i => .int i
  | .str x => .str x
  | .tup xs => .tuple (dats xs)
  | .lst xs => .list (dats xs)
  | .scr ns => .list (ns.map .int)
  | .kt xs => .tuple (dats xs)
  | _ => .none
def dats : List PV → List PyData
  | [] => []
  | x :: xs => dat x :: dats xs
end
mutual
def nown : PV → Bool
  | .tup xs => nowns xs
  | .lst xs => nowns xs
  | .kt xs => nowns xs
  | .non => true
  | .bl _ => true
  | .int _ => true
  | .str _ => true
  | .scr _ => true
  | _ => false
def nowns : List PV → Bool
  | [] => true
  | x :: xs => nown x && nowns xs
end
theorem dats_map : ∀ xs : List PV, dats xs = xs.map dat
  | [] => rfl
  | x :: xs => by rw [dats, dats_map xs]; rfl
theorem nowns_all : ∀ xs : List PV, nowns xs = xs.all nown
  | [] => rfl
  | x :: xs => by rw [nowns, nowns_all xs]; rfl
mutual
theorem VR.dp : ∀ {v : V} {p : PV}, VR K I ad v p → nown p = true → Dp K I v (dat p)
  | _, _, .non, _ => .non
  | _, _, .bl b, _ => .bl b
  | _, _, .int i, _ => .int i
  | _, _, .str x, _ => .str x
  | _, _, .tup h hs, e => .tup (TupF.sq h) (VRs.dp hs e)
  | _, _, .lst h hs, e => .lst (SqL.of h) (VRs.dp hs e)
  | _, _, .scr h, _ => .lst h (dpAll_ints _)
  | _, _, .kt h hs, e => .tup h.sq (VRs.dp hs e)
  | _, _, .own _, e => nomatch e
  | _, _, .ty _, e => nomatch e
  | _, _, .cls _, e => nomatch e
  | _, _, .ins _ _ _ _ _, e => nomatch e
  | _, _, .dct _ _ _ _, e => nomatch e
theorem VRs.dp : ∀ {vs : List V} {ps : List PV}, VRs K I ad vs ps → nowns ps = true → DpAll K I vs (dats ps)
  | _, _, .nil, _ => .nil
  | _, _, .cons h hs, e => by
    rw [nowns, Bool.and_eq_true] at e
    exact .cons (VR.dp h e.1) (VRs.dp hs e.2)
end
@[reducible] def rsv (p : PV) (S : Sto) : PV := match p with
  | .own k => match sget S k with
    | some xs => .lst xs
    | none => .own k
  | x => x
theorem VR.dpS (I : In K W S H) {v : V} {p : PV} (r : VR K W.I W.ad v p) (e : nown (rsv p S) = true) : Dp K H v (dat (rsv p S)) := by
  have go : nown p = true → Dp K H v (dat p) := fun e => Dp.up I.exH (r.dp e)
  cases p with
  | own k =>
    simp only [rsv] at e ⊢
    cases z : sget S k with
    | none => rw [z] at e; cases e
    | some xs =>
      rw [z] at e
      obtain ⟨a, us, h1, h2, h3⟩ := r.lv I (xs := xs) z
      subst h1
      exact .lst h2 (DpAll.up I.exH (h3.dp e))
  | _ => exact go e
def shOk (p : PV) : Prop := nown p = true ∧ ∃ k, k ≤ 60 ∧ good k (dat p)
/-- it may be compared -/
def eqOk (p : PV) : Prop := nown p = true ∧ SeqAt.shaped (dat p) = true
theorem shOk.eq {p : PV} (h : shOk p) : eqOk p := let ⟨h1, k, h2, h3⟩ := h; ⟨h1, good_shaped h3 (by omega)⟩
theorem dats_ints (ns : List Int) : dats (ns.map PV.int) = ns.map .int := by rw [dats_map, List.map_map]; rfl
theorem nowns_ints (ns : List Int) : nowns (ns.map PV.int) = true := by rw [nowns_all]; simp [nown]
theorem eqOk_iL (ns : List Int) : eqOk (.lst (ns.map PV.int)) := ⟨by rw [nown, nowns_ints], by rw [dat, dats_ints]; exact shaped_intsL ns⟩
theorem shaped_intsT (ns : List Int) : SeqAt.shaped (.tuple (ns.map .int)) = true := by
  have h := shaped_intsL ns
  unfold SeqAt.shaped at h ⊢
  simp only [PyData.canLay0, PyData.depth] at h ⊢
  exact h
theorem eqOk_iT (ns : List Int) : eqOk (.tup (ns.map PV.int)) := ⟨by rw [nown, nowns_ints], by rw [dat, dats_ints]; exact shaped_intsT ns⟩
/-- what is told apart at sight -/
@[reducible] def eqS (x y : PV) : Option Bool := match x with
  | .int i => match y with
    | .int j => some (decide (i = j))
    | .non => some false
    | .str _ => some false
    | _ => none
  | .str i => match y with
    | .str j => some (decide (i = j))
    | .non => some false
    | .int _ => some false
    | _ => none
  | .bl i => match y with
    | .bl j => some (decide (i = j))
    | _ => none
  | .non => match y with
    | .non => some true
    | .int _ => some false
    | .str _ => some false
    | _ => none
  | _ => none
@[reducible] def onE (o : Option Bool) (P : Bool → Prop) (G : Prop) : Prop := match o with
  | some b => P b
  | none => G
@[reducible] def isNil (y : PV) : Bool := match y with
  | .lst xs => (match xs with
    | [] => true
    | _ => false)
  | _ => false
@[reducible] def eqG (x y : PV) (S : Sto) (P : AV) : Prop := match isNil y with
  | true => onL (lv x S) fun xs => eqOk (.lst xs) ∧ P (.bl xs.isEmpty) S
  | false => eqOk (rsv x S) ∧ eqOk (rsv y S) ∧ P (.bl (PyData.eqv (dat (rsv x S)) (dat (rsv y S)))) S
@[reducible] def vEq : A2 := fun x y S P => onE (eqS x y) (fun b => P (.bl b) S) (eqG x y S P)
theorem eqS_ok {x y : V} {p q : PV} (r1 : VR K I ad x p) (r2 : VR K I ad y q) {b : Bool} (e : eqS p q = some b) : scal x y = true ∧ decide (x = y) = b := by
  cases p with
  | int i =>
    cases r1
    cases q with
    | int j => cases r2; cases e; exact ⟨rfl, by simp⟩
    | non => cases r2; cases e; exact ⟨rfl, by simp⟩
    | str j => cases r2; cases e; exact ⟨rfl, by simp⟩
    | _ => cases e
  | str i =>
    cases r1
    cases q with
    | int j => cases r2; cases e; exact ⟨rfl, by simp⟩
    | non => cases r2; cases e; exact ⟨rfl, by simp⟩
    | str j => cases r2; cases e; exact ⟨rfl, by simp⟩
    | _ => cases e
  | bl i =>
    cases r1
    cases q with
    | bl j => cases r2; cases e; exact ⟨rfl, by simp⟩
    | _ => cases e
  | non =>
    cases r1
    cases q with
    | int j => cases r2; cases e; exact ⟨rfl, by simp⟩
    | non => cases r2; cases e; exact ⟨rfl, by simp⟩
    | str j => cases r2; cases e; exact ⟨rfl, by simp⟩
    | _ => cases e
  | _ => cases e
@[reducible] def vNe : A2 := fun x y S P => vEq x y S fun r S1 => onB r fun c => P (.bl (!c)) S1
theorem eq_core (I : In K W S H) {x y : V} {p q : PV} (r1 : VR K W.I W.ad x p) (r2 : VR K W.I W.ad y q) {P : AV} (h : vEq p q S P) : ∃ b, P (.bl b) S ∧ ((scal x y = true ∧ decide (x = y) = b) ∨ ∃ d e, Dp K H x d ∧ Dp K H y e ∧ SeqAt.shaped d = true ∧ SeqAt.shaped e = true ∧ PyData.eqv d e = b) := by
  have h : onE (eqS p q) (fun b => P (.bl b) S) (eqG p q S P) := h
  cases z : eqS p q with
  | some b =>
    rw [z] at h
    exact ⟨b, h, .inl (eqS_ok r1 r2 z)⟩
  | none =>
    rw [z] at h
    have h : eqG p q S P := h
    unfold eqG at h
    cases n : isNil q with
    | true =>
      rw [n] at h
      obtain ⟨xs, e, ⟨h1, h2⟩, h3⟩ := onL_of h
      clear h
      obtain ⟨a, us, rfl, hq, rs⟩ := r1.lv I e
      cases q with
      | lst ys =>
        cases ys with
        | nil =>
          cases r2 with
          | lst hb hs =>
            cases hs
            rw [nown] at h1
            rw [dat] at h2
            refine ⟨_, h3, .inr ⟨_, .list [], .lst hq (DpAll.up I.exH (rs.dp h1)), .lst (SqL.of (I.exH _ _ hb)) .nil, h2, shaped_intsL [], ?_⟩⟩
            rw [eqv_nil, dats_map]
            cases xs <;> simp
        | cons _ _ => cases n
      | _ => cases n
    | false =>
      rw [n] at h
      obtain ⟨⟨h1, g1⟩, ⟨h2, g2⟩, h⟩ := h
      exact ⟨_, h, .inr ⟨_, _, r1.dpS I h1, r2.dpS I h2, g1, g2, rfl⟩⟩
theorem so_eq : SO K (rEqA K) vEq := ⟨fun {W S x y p q H Q P} I r1 r2 h c => by
  obtain ⟨b, hb, ⟨e1, e2⟩ | ⟨d, e, h1, h2, h3, h4, h5⟩⟩ := eq_core I r1 r2 h
  · exact .inl ⟨e1, by rw [e2]; exact c.at I (.bl _) hb⟩
  · exact .inr ⟨d, e, h1, h2, h3, h4, by rw [h5]; exact c.at I (.bl _) hb⟩⟩
theorem so_ne : SO K (rNeA K) vNe := ⟨fun {W S x y p q H Q P} I r1 r2 h c => by
  obtain ⟨b, hb, ⟨e1, e2⟩ | ⟨d, e, h1, h2, h3, h4, h5⟩⟩ := eq_core I r1 r2 h
  · exact .inl ⟨e1, by rw [e2]; exact c.at I (.bl _) hb⟩
  · exact .inr ⟨d, e, h1, h2, h3, h4, by rw [h5]; exact c.at I (.bl _) hb⟩⟩
@[reducible] def onN (y : PV) (P : Prop) : Prop := match y with
  | .non => P
  | _ => False
@[reducible] def isNon (x : PV) (A B : Prop) : Prop := match x with
  | .non => A
  | _ => B
theorem VR.onN {v : V} {p : PV} (r : VR K I ad v p) {P : Prop} (h : onN p P) : v = .non ∧ P := by
  cases r with
  | non => exact ⟨rfl, h⟩
  | _ => exact h.elim
@[reducible] def vIs : A2 := fun x y S P => onN y (isNon x (P (.bl true) S) (P (.bl false) S))
@[reducible] def vIsNot : A2 := fun x y S P => onN y (isNon x (P (.bl false) S) (P (.bl true) S))
theorem so_is : SO K rIsNone vIs := ⟨fun {W S x y p q H Q P} I r1 r2 h c => by
  obtain ⟨rfl, h⟩ := r2.onN h
  cases r1 <;> exact ⟨rfl, c.at I (.bl _) h⟩⟩
theorem so_isNot : SO K rIsNotNone vIsNot := ⟨fun {W S x y p q H Q P} I r1 r2 h c => by
  obtain ⟨rfl, h⟩ := r2.onN h
  cases r1 <;> exact ⟨rfl, c.at I (.bl _) h⟩⟩
/-! items, slices -/
@[reducible] def vIx : A2 := fun x y S P => onL (sq x S) fun xs => onI y fun i => onO (atI xs i) fun v => P v S
theorem VRs.atI {us : List V} {xs : List PV} (r : VRs K I ad us xs) {i : Int} {p : PV} (e : atI xs i = some p) : ∃ v, L2.atI us i = some v ∧ VR K I ad v p := by
  unfold L2.atI at e ⊢
  rw [r.length]
  cases z : ixN xs.length i with
  | none => rw [z] at e; cases e
  | some j =>
    rw [z] at e
    exact r.get e
theorem so_ix : SO K (rIx K) vIx := ⟨fun {W S x y p q H Q P} I r1 r2 h c => by
  obtain ⟨xs, e, h⟩ := onL_of h
  obtain ⟨i, rfl, _, h⟩ := r2.onI h
  obtain ⟨z, e2, h⟩ := h
  obtain ⟨a, us, rfl, hq, rs⟩ := r1.sq I e
  obtain ⟨v, e3, rv⟩ := rs.atI e2
  rcases hq with hq | hq
  · exact .inl ⟨a, us, i, v, rfl, rfl, hq, e3, c.at I rv h⟩
  · exact .inr (.inl ⟨a, us, i, v, rfl, rfl, hq, e3, c.at I rv h⟩)⟩
abbrev APt := AEnv → Sto → (Option Int → Sto → Prop) → Prop
structure SPt (K : PySem.W.Frag) (tp : TO) (f : APt) : Prop where
  run : ∀ {W S σ ρ H R P}, In K W S H → ER K W σ ρ → f ρ S P → (∀ W' S' o H', W.Le W' → In K W' S' H' → P o S' → R o H') → tp σ H R
@[reducible] def aNo : APt := fun _ S P => P none S
@[reducible] def aPart (a : ATE) : APt := fun ρ S P => a ρ S fun x S1 => onI x fun i => P (some i) S1
theorem sp_no : SPt K tNoPart aNo := ⟨fun I _ h c => c _ _ _ _ (.refl _) I h⟩
theorem sp_part {te : TE} {f : ATE} (ha : SE K te f) : SPt K (tPart te) (aPart f) := ⟨fun I E h c =>
  ha.run I E h fun W1 S1 x p H1 l1 I1 r1 h1 => by
    obtain ⟨i, e, _, h2⟩ := r1.onI h1
    exact ⟨i, e, c _ _ _ _ l1 I1 h2⟩⟩
def cutP (xs : List PV) (lo hi : Option Int) : List PV := (xs.drop (HT.sIx xs.length 0 lo)).take (HT.sIx xs.length xs.length hi - HT.sIx xs.length 0 lo)
@[reducible] def vSl (x : PV) (lo hi : Option Int) (S : Sto) (P : AV) : Prop := match x with
  | .tup xs => P (.tup (cutP xs lo hi)) S
  | _ => onL (lv x S) fun xs => P (.lst (cutP xs lo hi)) S
@[reducible] def vSlO (x : PV) (lo hi : Option Int) (S : Sto) (P : AV) : Prop := onL (lv x S) fun xs => newO S (.lst (cutP xs lo hi)) P
@[reducible] def aSl (g : PV → Option Int → Option Int → Sto → AV → Prop) (a : ATE) (l h : APt) : ATE := fun ρ S P => a ρ S fun x S1 => l ρ S1 fun lo S2 => h ρ S2 fun hi S3 => g x lo hi S3 P
structure SSl (K : PySem.W.Frag) (r : V → Option Int → Option Int → Hp → VK → Prop) (g : PV → Option Int → Option Int → Sto → AV → Prop) : Prop where
  run : ∀ {W S x p lo hi H Q P}, In K W S H → VR K W.I W.ad x p → g p lo hi S P → CE K W P Q → r x lo hi H Q
theorem cut_whole2 {xs : List PV} {lo hi : Option Int} (h : HT.sIx xs.length 0 lo = 0 ∧ HT.sIx xs.length xs.length hi = xs.length) : cutP xs lo hi = xs := by
  unfold cutP
  rw [h.1, h.2]
  simp
theorem sl_any : SSl K (rSlG K) vSl := ⟨fun {W S x p lo hi H Q P} I r h c => by
  have go : onL (lv p S) (fun xs => P (.lst (cutP xs lo hi)) S) → rSlG K x lo hi H Q := fun h => by
    obtain ⟨xs, e, h⟩ := onL_of h
    obtain ⟨a, us, rfl, hq, rs⟩ := r.lv I e
    exact .inl ⟨a, us, rfl, hq, I.newL (rs.cut lo hi) c h⟩
  cases p with
  | tup xs =>
    obtain ⟨a, us, rfl, hq, rs⟩ := r.tupS I
    refine .inr ⟨a, us, rfl, hq, fun w => ?_, fun _ => I.newT (rs.cut lo hi) c h⟩
    rw [rs.length] at w
    have h : P (.tup (cutP xs lo hi)) S := h
    rw [cut_whole2 w] at h
    exact c.at I r h
  | _ => exact go h⟩
theorem sl_own : SSl K (rSlG K) vSlO := ⟨fun {W S x p lo hi H Q P} I r h c => by
  obtain ⟨xs, e, h⟩ := onL_of h
  obtain ⟨a, us, rfl, hq, rs⟩ := r.lv I e
  exact .inl ⟨a, us, rfl, hq, I.newO (rs.cut lo hi) c h⟩⟩
theorem se_sl {r : V → Option Int → Option Int → Hp → VK → Prop} {g : PV → Option Int → Option Int → Sto → AV → Prop} {te : TE} {f : ATE} {tl th : TO} {fl fh : APt} (hr : SSl K r g) (ha : SE K te f) (hl : SPt K tl fl) (hh : SPt K th fh) : SE K (tSl r te tl th) (aSl g f fl fh) := ⟨fun I E h c =>
  ha.run I E h fun W1 S1 x p H1 l1 I1 r1 h1 => hl.run I1 (E.up l1.toLo) h1 fun W2 S2 lo H2 l2 I2 h2 => hh.run I2 (E.up (l1.trans l2).toLo) h2 fun W3 S3 hi H3 l3 I3 h3 =>
    hr.run I3 (r1.up (l2.trans l3).toLo) h3 (c.up ((l1.trans l2).trans l3))⟩
@[reducible] def aRev (a : ATE) : ATE := fun ρ S P => a ρ S fun x S1 => onL (lv x S1) fun xs => P (.lst xs.reverse) S1
@[reducible] def aRevO (a : ATE) : ATE := fun ρ S P => a ρ S fun x S1 => onL (lv x S1) fun xs => newO S1 (.lst xs.reverse) P
theorem se_rev {te : TE} {f : ATE} (ha : SE K te f) : SE K (tRevL K te) (aRev f) := ⟨fun I E h c =>
  ha.run I E h fun W1 S1 x p H1 l1 I1 r1 h1 => by
    obtain ⟨xs, e, h⟩ := onL_of h1
    obtain ⟨a, us, rfl, hq, rs⟩ := r1.lv I1 e
    exact ⟨a, us, rfl, hq, I1.newL rs.reverse (c.up l1) h⟩⟩
theorem se_revO {te : TE} {f : ATE} (ha : SE K te f) : SE K (tRevL K te) (aRevO f) := ⟨fun I E h c =>
  ha.run I E h fun W1 S1 x p H1 l1 I1 r1 h1 => by
    obtain ⟨xs, e, h⟩ := onL_of h1
    obtain ⟨a, us, rfl, hq, rs⟩ := r1.lv I1 e
    exact ⟨a, us, rfl, hq, I1.newO rs.reverse (c.up l1) h⟩⟩
end
end L5

/-! readings over trees: calls, targets, what is walked. -/
namespace L5
open PySem PySem.Spec PyProof.Rows L2 L3
section
variable {K : PySem.W.Frag} {W W' : Wd} {S : Sto} {H : Hp} {P : AV} {Q : VK} {I : Hp} {ad : List Addr}
/-! ### calls of built-ins -/
@[reducible] def aCB (g : AL) (t : ATA) : ATE := fun ρ S P => t ρ S fun xs S1 => g xs S1 P
theorem se_cb {r : List V → Hp → VK → Prop} {g : AL} {t : TA} {f : ATA} (hr : SL K r g) (ha : SA K t f) : SE K (tCB r t) (aCB g f) := ⟨fun I E h c =>
  ha.run I E h fun W1 S1 xs ps H1 l1 I1 r1 h1 => hr.run I1 r1 h1 (c.up l1)⟩
@[reducible] def on1 (xs : List PV) (P : PV → Prop) : Prop := match xs with
  | [x] => P x
  | _ => False
theorem VRs.on1 {vs : List V} {ps : List PV} (r : VRs K I ad vs ps) {P : PV → Prop} (h : on1 ps P) : ∃ v p, vs = [v] ∧ ps = [p] ∧ VR K I ad v p ∧ P p := by
  cases r with
  | nil => exact h.elim
  | cons r rs => cases rs with
    | nil => exact ⟨_, _, rfl, rfl, r, h⟩
    | cons _ _ => exact h.elim
@[reducible] def vLen : AL := fun xs S P => on1 xs fun x => onL (sq x S) fun ys => P (.int (ys.length : Nat)) S
theorem sl_len : SL K (rLenA K) vLen := ⟨fun I r h c => by
  obtain ⟨v, p, rfl, rfl, r, h⟩ := r.on1 h
  obtain ⟨ys, e, h⟩ := onL_of h
  obtain ⟨a, us, rfl, hq, rs⟩ := r.sq I e
  rw [← rs.length] at h
  rcases hq with hq | hq
  · exact ⟨_, us.length, rfl, .inl ⟨us, hq, rfl⟩, c.at I (.int _) h⟩
  · exact ⟨_, us.length, rfl, .inr ⟨us, hq, rfl⟩, c.at I (.int _) h⟩⟩
/-- a list of ints, of bools -/
def intsOf (xs : List PV) (P : List Int → Prop) : Prop := ∃ ns : List Int, xs = ns.map PV.int ∧ P ns
def blsOf (xs : List PV) (P : List Bool → Prop) : Prop := ∃ ns : List Bool, xs = ns.map PV.bl ∧ P ns
@[reducible] def vMax : AL := fun xs S P => match xs with
  | [.int i, .int j] => P (.int (if j > i then j else i)) S
  | [x] => onL (lv x S) fun ys => intsOf ys fun ns => 0 < ns.length ∧ ∀ m, m ∈ ns → (∀ y, y ∈ ns → y ≤ m) → P (.int m) S
  | _ => False
@[reducible] def vMin : AL := fun xs S P => match xs with
  | [.int i, .int j] => P (.int (if j < i then j else i)) S
  | [x] => onL (lv x S) fun ys => intsOf ys fun ns => 0 < ns.length ∧ ∀ m, m ∈ ns → (∀ y, y ∈ ns → m ≤ y) → P (.int m) S
  | _ => False
theorem sl_max : SL K (rMaxA K) vMax := ⟨fun {W S xs ps H Q P} I r h c => by
  unfold vMax at h
  split at h
  · cases r with
    | cons r1 r2 => cases r2 with
      | cons r2 r3 =>
        cases r3
        cases r1
        cases r2
        exact .inl ⟨_, _, rfl, c.at I (.int _) h⟩
  · obtain ⟨v, p, rfl, e, r, h⟩ := VRs.on1 r (P := fun x => onL (lv x S) fun ys => intsOf ys fun ns => 0 < ns.length ∧ ∀ m, m ∈ ns → (∀ y, y ∈ ns → y ≤ m) → P (.int m) S) h
    obtain ⟨ys, e2, ns, rfl, h1, h2⟩ := onL_of h
    obtain ⟨a, us, rfl, hq, rs⟩ := r.lv I e2
    rw [rs.ints_of] at hq
    exact .inr ⟨a, ns, rfl, hq, h1, fun m hm hb => c.at I (.int _) (h2 m hm hb)⟩
  · exact h.elim⟩
theorem sl_min : SL K (rMinA K) vMin := ⟨fun {W S xs ps H Q P} I r h c => by
  unfold vMin at h
  split at h
  · cases r with
    | cons r1 r2 => cases r2 with
      | cons r2 r3 =>
        cases r3
        cases r1
        cases r2
        exact .inl ⟨_, _, rfl, c.at I (.int _) h⟩
  · obtain ⟨v, p, rfl, e, r, h⟩ := VRs.on1 r (P := fun x => onL (lv x S) fun ys => intsOf ys fun ns => 0 < ns.length ∧ ∀ m, m ∈ ns → (∀ y, y ∈ ns → m ≤ y) → P (.int m) S) h
    obtain ⟨ys, e2, ns, rfl, h1, h2⟩ := onL_of h
    obtain ⟨a, us, rfl, hq, rs⟩ := r.lv I e2
    rw [rs.ints_of] at hq
    exact .inr ⟨a, ns, rfl, hq, h1, fun m hm hb => c.at I (.int _) (h2 m hm hb)⟩
  · exact h.elim⟩
@[reducible] def vSum : AL := fun xs S P => on1 xs fun x => onL (lv x S) fun ys => intsOf ys fun ns => P (.int ns.sum) S
theorem sl_sum : SL K (rSum K) vSum := ⟨fun I r h c => by
  obtain ⟨v, p, rfl, rfl, r, h⟩ := r.on1 h
  obtain ⟨ys, e2, ns, rfl, h⟩ := onL_of h
  obtain ⟨a, us, rfl, hq, rs⟩ := r.lv I e2
  rw [rs.ints_of] at hq
  exact ⟨a, ns, rfl, hq, c.at I (.int _) h⟩⟩
@[reducible] def vAny : AL := fun xs S P => on1 xs fun x => onL (lv x S) fun ys => blsOf ys fun ns => P (.bl (ns.any id)) S
theorem sl_anyB : SL K (rAny K) vAny := ⟨fun I r h c => by
  obtain ⟨v, p, rfl, rfl, r, h⟩ := r.on1 h
  obtain ⟨ys, e2, ns, rfl, h⟩ := onL_of h
  obtain ⟨a, us, rfl, hq, rs⟩ := r.lv I e2
  rw [rs.bls_of] at hq
  exact ⟨a, ns, rfl, hq, c.at I (.bl _) h⟩⟩
@[reducible] def vAll : AL := fun xs S P => on1 xs fun x => onL (lv x S) fun ys => blsOf ys fun ns => P (.bl (ns.all id)) S
theorem sl_allB : SL K (rAll K) vAll := ⟨fun I r h c => by
  obtain ⟨v, p, rfl, rfl, r, h⟩ := r.on1 h
  obtain ⟨ys, e2, ns, rfl, h⟩ := onL_of h
  obtain ⟨a, us, rfl, hq, rs⟩ := r.lv I e2
  rw [rs.bls_of] at hq
  exact ⟨a, ns, rfl, hq, c.at I (.bl _) h⟩⟩
def rpOk (p : PV) : Prop := shOk p ∧ nz (dat p) ≤ 16000000
@[reducible] def vRepr : AL := fun xs S P => on1 xs fun x => rpOk (rsv x S) ∧ P (.str (PyData.shown (dat (rsv x S)))) S
theorem sl_repr : SL K (rRepr K) vRepr := ⟨fun {W S xs ps H Q P} I r h c => by
  obtain ⟨v, p, rfl, rfl, r, ⟨⟨h1, k, h2, h3⟩, h4⟩, h⟩ := r.on1 h
  exact ⟨v, _, rfl, r.dpS I h1, good_show k _ h3, Nat.le_trans (good_depth k _ h3) h2, Nat.le_trans (Nat.le_trans (good_nz k _ h3) h4) (by decide), c.at I (.str _) h⟩⟩
@[reducible] def vList : AL := fun xs S P => on1 xs fun x => onL (sq x S) fun ys => P (.lst ys) S
@[reducible] def vListO : AL := fun xs S P => on1 xs fun x => onL (sq x S) fun ys => newO S (.lst ys) P
theorem sl_list : SL K (rListA K) vList := ⟨fun I r h c => by
  obtain ⟨v, p, rfl, rfl, r, h⟩ := r.on1 h
  obtain ⟨ys, e, h⟩ := onL_of h
  obtain ⟨a, us, rfl, hq, rs⟩ := r.sq I e
  exact ⟨a, us, rfl, hq, I.newL rs c h⟩⟩
theorem sl_listO : SL K (rListA K) vListO := ⟨fun I r h c => by
  obtain ⟨v, p, rfl, rfl, r, h⟩ := r.on1 h
  obtain ⟨ys, e, h⟩ := onL_of h
  obtain ⟨a, us, rfl, hq, rs⟩ := r.sq I e
  exact ⟨a, us, rfl, hq, I.newO rs c h⟩⟩
@[reducible] def sqN (p : PV) (S : Sto) : Option (List PV) := match p with
  | .tup xs => some xs
  | .lst xs => some xs
  | .scr ns => some (ns.map .int)
  | .own k => sget S k
  | _ => none
@[reducible] def vTuple : AL := fun xs S P => on1 xs fun x => onL (sqN x S) fun ys => P (.tup ys) S
theorem sl_tuple : SL K (rTupF K) vTuple := ⟨fun {W S xs ps H Q P} I r h c => by
  obtain ⟨v, p, rfl, rfl, r, h⟩ := r.on1 h
  obtain ⟨ys, e, h2⟩ := onL_of h
  clear h
  have go : lv p S = some ys → rTupF K [v] H Q := fun e => by
    obtain ⟨a, us, rfl, hq, rs⟩ := r.lv I e
    exact ⟨a, us, rfl, .inl ⟨hq, I.newT rs c h2⟩⟩
  cases p with
  | tup xs =>
    cases e
    obtain ⟨a, us, rfl, hq, rs⟩ := r.tupS I
    exact ⟨a, us, rfl, .inr ⟨hq, c.at I r h2⟩⟩
  | _ => exact go e⟩
@[reducible] def vDivmod : AL := fun xs S P => match xs with
  | [.int i, .int j] => CDiv i j ∧ P (.tup [.int (i / j), .int (i % j)]) S
  | _ => False
theorem sl_divmod : SL K rDivmodF vDivmod := ⟨fun {W S xs ps H Q P} I r h c => by
  unfold vDivmod at h
  split at h
  · cases r with
    | cons r1 r2 => cases r2 with
      | cons r2 r3 =>
        cases r3
        cases r1
        cases r2
        exact ⟨_, _, rfl, h.1, I.newT (.cons (.int _) (.cons (.int _) .nil)) c h.2⟩
  · exact h.elim⟩
@[reducible] def vInt : AL := fun xs S P => match xs with
  | [.int i] => P (.int i) S
  | [.bl k] => P (.int (if k then 1 else 0)) S
  | _ => False
theorem sl_int : SL K rInt1 vInt := ⟨fun {W S xs ps H Q P} I r h c => by
  unfold vInt at h
  split at h
  · cases r with
    | cons r1 r2 => cases r2; cases r1; exact .inl ⟨_, rfl, c.at I (.int _) h⟩
  · cases r with
    | cons r1 r2 => cases r2; cases r1; exact .inr ⟨_, rfl, c.at I (.int _) h⟩
  · exact h.elim⟩
/-! ### methods -/
@[reducible] def aBM (g : AM) (o : ATE) (t : ATA) : ATE := fun ρ S P => o ρ S fun x S1 => onL (lv x S1) fun _ => t ρ S1 fun xs S2 => g x xs S2 P
@[reducible] def aBM0 (g : AM) (o : ATE) : ATE := fun ρ S P => o ρ S fun x S1 => onL (lv x S1) fun _ => g x [] S1 P
@[reducible] def aBMT (g : AM) (o : ATE) (t : ATA) : ATE := fun ρ S P => o ρ S fun x S1 => onT x fun _ => t ρ S1 fun xs S2 => g x xs S2 P
theorem se_bm {r : V → List V → Hp → VK → Prop} {g : AM} {to : TE} {fo : ATE} {t : TA} {f : ATA} (hr : SM K r g) (ho : SE K to fo) (ha : SA K t f) : SE K (tBM K "list" r to t) (aBM g fo f) := ⟨fun I E h c =>
  ho.run I E h fun W1 S1 x p H1 l1 I1 r1 h1 => by
    obtain ⟨ys, e, h2⟩ := onL_of h1
    obtain ⟨a, us, rfl, hq, rs⟩ := r1.lv I1 e
    exact ⟨.inl ⟨rfl, us, hq⟩, ha.run I1 (E.up l1.toLo) h2 fun W2 S2 xs ps H2 l2 I2 r2 h3 => hr.run I2 (r1.up l2.toLo) r2 h3 (c.up (l1.trans l2))⟩⟩
theorem se_bm0 {r : V → List V → Hp → VK → Prop} {g : AM} {to : TE} {fo : ATE} (hr : SM K r g) (ho : SE K to fo) : SE K (tBM0 K "list" r to) (aBM0 g fo) := ⟨fun I E h c =>
  ho.run I E h fun W1 S1 x p H1 l1 I1 r1 h1 => by
    obtain ⟨ys, e, h2⟩ := onL_of h1
    obtain ⟨a, us, rfl, hq, rs⟩ := r1.lv I1 e
    exact ⟨.inl ⟨rfl, us, hq⟩, hr.run I1 r1 .nil h2 (c.up l1)⟩⟩
theorem se_bmT {r : V → List V → Hp → VK → Prop} {g : AM} {to : TE} {fo : ATE} {t : TA} {f : ATA} (hr : SM K r g) (ho : SE K to fo) (ha : SA K t f) : SE K (tBMT r to t) (aBMT g fo f) := ⟨fun I E h c =>
  ho.run I E h fun W1 S1 x p H1 l1 I1 r1 h1 => by
    obtain ⟨ys, rfl, h2⟩ := r1.onT h1
    refine ⟨?_, ha.run I1 (E.up l1.toLo) h2 fun W2 S2 xs ps H2 l2 I2 r2 h3 => hr.run I2 (r1.up l2.toLo) r2 h3 (c.up (l1.trans l2))⟩
    cases r1 with
    | tup h hs => exact ⟨_, _, rfl, TupF.up I1.exH h⟩⟩
/-- what is own -/
@[reducible] def onK (x : PV) (S : Sto) (P : Nat → List PV → Prop) : Prop := match x with
  | .own k => onL (sget S k) fun xs => P k xs
  | _ => False
theorem VR.onK (I : In K W S H) {v : V} {p : PV} (r : VR K W.I W.ad v p) {P : Nat → List PV → Prop} (h : onK p S P) :
    ∃ a us k xs, v = .ref a ∧ p = .own k ∧ H a = some (.lst us) ∧ VRs K W.I W.ad us xs ∧ sget S k = some xs ∧ (∀ us' xs', VRs K W.I W.ad us' xs' → In K W (sput S k xs') (upd H a (.lst us'))) ∧ P k xs := by
  cases p with
  | own k =>
    obtain ⟨xs, e, h⟩ := onL_of h
    obtain ⟨a, us, e1, e2, rs, up⟩ := I.at r (sget_eq e)
    exact ⟨a, us, k, xs, e1, rfl, e2, rs, e, fun us' xs' r' => by rw [sput_eq]; exact up us' xs' r', h⟩
  | _ => exact h.elim
@[reducible] def vAppend : AM := fun x ys S P => on1 ys fun y => onK x S fun k xs => xs.length < sizeLine ∧ P .non (sput S k (xs ++ [y]))
theorem sm_append : SM K rAppend vAppend := ⟨fun I r rs h c => by
  obtain ⟨v, p, rfl, rfl, r2, h⟩ := rs.on1 h
  obtain ⟨a, us, k, xs, rfl, rfl, e, r3, _, up, hz, h⟩ := r.onK I h
  exact ⟨a, us, v, rfl, rfl, e, by rw [r3.length]; exact hz, c.at (up _ _ (r3.append (.cons r2 .nil))) .non h⟩⟩
@[reducible] def vPop : AM := fun x ys S P => match ys with
  | [] => onK x S fun k xs => onO xs[xs.length - 1]? fun y => P y (sput S k xs.dropLast)
  | _ => False
theorem sm_pop : SM K rPop vPop := ⟨fun {W S x p xs ps H Q P} I r rs h c => by
  cases rs with
  | cons _ _ => exact h.elim
  | nil =>
    have h : onK p S fun k xs => onO xs[xs.length - 1]? fun y => P y (sput S k xs.dropLast) := h
    obtain ⟨a, us, k, zs, rfl, rfl, e, r3, _, up, y, ey, h⟩ := r.onK I h
    obtain ⟨v, ev, rv⟩ := r3.get ey
    exact ⟨a, us, v, rfl, rfl, e, by rw [r3.length]; exact ev, c.at (up _ _ r3.dropLast) rv h⟩⟩
@[reducible] def vCount : AM := fun x ys S P => on1 ys fun y => onT x fun xs => onI y fun k => intsOf xs fun ns => P (.int (ns.count k : Nat)) S
theorem sm_count : SM K (rCntT K) vCount := ⟨fun I r rs h c => by
  obtain ⟨v, p, rfl, rfl, r2, h⟩ := rs.on1 h
  obtain ⟨xs, rfl, h2⟩ := r.onT h
  obtain ⟨k, rfl, _, ns, e, h3⟩ := r2.onI h2
  clear h h2
  subst e
  obtain ⟨a, us, rfl, hq, r3⟩ := r.tupS I
  rw [r3.ints_of] at hq
  exact ⟨a, ns, k, rfl, rfl, hq, c.at I (.int _) h3⟩⟩
/-! ### targets -/
inductive AItem where
  | one (p : PV)
  | many (xs : List PV)
inductive IR (K : PySem.W.Frag) (W : Wd) (H : Hp) : V → AItem → Prop where
  | one {v : V} {p : PV} : VR K W.I W.ad v p → IR K W H v (.one p)
  | many {a : Addr} {us : List V} {xs : List PV} : SqT K H a us → VRs K W.I W.ad us xs → IR K W H (.ref a) (.many xs)
abbrev AG := AItem → AEnv → Sto → (AEnv → Sto → Prop) → Prop
abbrev AGs := List PV → AEnv → Sto → (AEnv → Sto → Prop) → Prop
/-- only the slots ws are changed -/
def Fx (ws : List Nat) (σ σ' : St) : Prop := ∀ vs : List Nat, (∀ i ∈ ws, i ∈ vs) → wipe σ' vs = wipe σ vs
theorem Fx.refl {ws : List Nat} (σ : St) : Fx ws σ σ := fun _ _ => rfl
theorem wipe_set_out {σ : St} {i : Nat} {x : Option V} : ∀ {vs : List Nat}, i ∉ vs → wipe (σ.set i x) vs = (wipe σ vs).set i x
  | [], _ => rfl
  | v :: vs, h => by
    unfold wipe
    rw [wipe_set_out (fun z => h (List.mem_cons_of_mem _ z)), List.set_comm _ _ (fun e => h (by rw [e]; exact List.mem_cons_self))]
theorem wipe_set_in {σ : St} {i : Nat} {x : Option V} : ∀ {vs : List Nat}, i ∈ vs → wipe (σ.set i x) vs = wipe σ vs
  | v :: vs, h => by
    unfold wipe
    by_cases hi : i ∈ vs
    · rw [wipe_set_in hi]
    · rcases List.mem_cons.mp h with rfl | h
      · rw [wipe_set_out hi, List.set_set]
      · exact absurd h hi
theorem Fx.set {i : Nat} {x : Option V} (σ : St) : Fx [i] σ (σ.set i x) := fun vs h => wipe_set_in (h i List.mem_cons_self)
structure SG (K : PySem.W.Frag) (g : TG) (f : AG) (ws : List Nat) : Prop where
  run : ∀ {W S σ ρ H v it R P}, In K W S H → ER K W σ ρ → IR K W H v it → f it ρ S P → (∀ W' S' σ' ρ' H', W.Le W' → In K W' S' H' → ER K W' σ' ρ' → Fx ws σ σ' → P ρ' S' → R σ' H') → g v σ H R
structure SGs (K : PySem.W.Frag) (g : TGs) (f : AGs) (ws : List Nat) : Prop where
  run : ∀ {W S σ ρ H vs ps R P}, In K W S H → ER K W σ ρ → VRs K W.I W.ad vs ps → f ps ρ S P → (∀ W' S' σ' ρ' H', W.Le W' → In K W' S' H' → ER K W' σ' ρ' → Fx ws σ σ' → P ρ' S' → R σ' H') → g vs σ H R
/-- the environment with a new value -/
structure setE (ρ : AEnv) (i : Nat) (p : PV) (P : AEnv → Prop) : Prop where
  h : P (put ρ i p)
theorem r_set {ρ ρ' : AEnv} {i : Nat} {p : PV} {P : AEnv → Prop} (e : put ρ i p = ρ') (h : P ρ') : setE ρ i p P := ⟨by rw [e]; exact h⟩
@[reducible] def gaName (i : Nat) : AG := fun it ρ S P => match it with
  | .one p => setE ρ i p fun ρ1 => P ρ1 S
  | _ => False
@[reducible] def gaNil : AGs := fun ps ρ S P => match ps with
  | [] => P ρ S
  | _ => False
@[reducible] def gaCons (g : AG) (gs : AGs) : AGs := fun ps ρ S P => match ps with
  | p :: ps => g (.one p) ρ S fun ρ1 S1 => gs ps ρ1 S1 P
  | _ => False
@[reducible] def gaTup (n : Nat) (gs : AGs) : AG := fun it ρ S P => match it with
  | .many xs => xs.length = n ∧ gs xs ρ S P
  | .one (.tup xs) => xs.length = n ∧ gs xs ρ S P
  | _ => False
@[reducible] def gaSub (o i : ATE) : AG := fun it ρ S P => match it with
  | .one p => o ρ S fun x S1 => i ρ S1 fun y S2 => onI y fun j => onK x S2 fun k xs => onO (ixN xs.length j) fun m => P ρ (sput S2 k (xs.set m p))
  | _ => False
theorem sg_name {i : Nat} : SG K (gName i) (gaName i) [i] := ⟨fun {W S σ ρ H v it R P} I E r h c => by
  cases r with
  | one r => exact c _ _ _ _ _ (.refl _) I (E.put r i) (Fx.set σ) h.h
  | many _ _ => exact h.elim⟩
theorem sgs_nil : SGs K gNil gaNil [] := ⟨fun {W S σ ρ H vs ps R P} I E r h c => by
  cases r with
  | nil => exact ⟨rfl, c _ _ _ _ _ (.refl _) I E (Fx.refl σ) h⟩
  | cons _ _ => exact h.elim⟩
theorem sgs_cons {g : TG} {f : AG} {gs : TGs} {fs : AGs} {ws ws' : List Nat} (h1 : SG K g f ws) (h2 : SGs K gs fs ws') : SGs K (gCons g gs) (gaCons f fs) (ws ++ ws') := ⟨fun {W S σ ρ H vs ps R P} I E r h c => by
  cases r with
  | nil => exact h.elim
  | cons r rs =>
    refine ⟨_, _, rfl, h1.run I E (.one r) h fun W1 S1 σ1 ρ1 H1 l1 I1 E1 x1 k1 => ?_⟩
    exact h2.run I1 E1 (rs.up l1.toLo) k1 fun W2 S2 σ2 ρ2 H2 l2 I2 E2 x2 k2 => c _ _ _ _ _ (l1.trans l2) I2 E2 (fun vs hv => (x2 vs fun i hi => hv i (List.mem_append_right _ hi)).trans (x1 vs fun i hi => hv i (List.mem_append_left _ hi))) k2⟩
theorem sg_tup {n : Nat} {gs : TGs} {fs : AGs} {ws : List Nat} (h2 : SGs K gs fs ws) : SG K (gTup K n gs) (gaTup n fs) ws := ⟨fun {W S σ ρ H v it R P} I E r h c => by
  cases r with
  | many hq rs => exact ⟨_, _, rfl, hq, by rw [rs.length]; exact h.1, h2.run I E rs h.2 c⟩
  | one r =>
    rename_i p
    cases p with
    | tup xs =>
      obtain ⟨a, us, rfl, hq, rs⟩ := r.tupS I
      exact ⟨a, us, rfl, hq, by rw [rs.length]; exact h.1, h2.run I E rs h.2 c⟩
    | _ => exact h.elim⟩
theorem sg_sub {to ti : TE} {fo fi : ATE} (ho : SE K to fo) (hi : SE K ti fi) : SG K (gSub to ti rSetL) (gaSub fo fi) [] := ⟨fun {W S σ ρ H v it R P} I E r h c => by
  cases r with
  | many _ _ => exact h.elim
  | one r =>
    exact ho.run I E h fun W1 S1 x p H1 l1 I1 r1 h1 => hi.run I1 (E.up l1.toLo) h1 fun W2 S2 y q H2 l2 I2 r2 h2 => by
      obtain ⟨j, rfl, _, h2⟩ := r2.onI h2
      obtain ⟨a, us, k, xs, rfl, rfl, e, r3, _, up, m, em, h2⟩ := (r1.up l2.toLo).onK I2 h2
      exact ⟨a, us, j, m, rfl, rfl, e, by rw [r3.length]; exact em, c _ _ _ _ _ (l1.trans l2) (up _ _ (r3.set (r.up (l1.trans l2).toLo) m)) (E.up (l1.trans l2).toLo) (Fx.refl σ) h2⟩⟩
/-! ### what is walked -/
structure Yl (K : PySem.W.Frag) (W : Wd) (J : It) (C : Sto → Prop) (its : List AItem) : Prop where
  go : ∀ W' S H i, W.Lo W' → In K W' S H → C S → i < its.length → J.go i H
  stop : ∀ W' S H, W.Lo W' → In K W' S H → C S → J.stop its.length H
  yld : ∀ W' S H i it x H', W.Lo W' → In K W' S H → C S → its[i]? = some it → J.yld i H x H' → In K W' S H' ∧ IR K W' H' x it
abbrev ATI := AEnv → Sto → ((Sto → Prop) → List AItem → Sto → Prop) → Prop
structure SI (K : PySem.W.Frag) (wi : TI) (f : ATI) : Prop where
  run : ∀ {W S σ ρ H R P}, In K W S H → ER K W σ ρ → f ρ S P → (∀ W' S' J C its H', W.Le W' → In K W' S' H' → Yl K W' J C its → P C its S' → R J H') → wi σ H R
theorem In.skip (I : In K W S H) {p : Addr} {o : HO} (h : H p = none) : In K W S (upd H p o) := by
  obtain ⟨os, O, h1, h2, h3⟩ := I.ex
  exact ⟨os, O.skip h, h1, h2, h3⟩
def cT : Sto → Prop := fun _ => True
@[reducible] def aSeq1 (a : ATE) : ATI := fun ρ S R => a ρ S fun x S1 => match x with
  | .tup xs => R cT (xs.map .one) S1
  | .lst xs => R cT (xs.map .one) S1
  | .scr ns => R cT (ns.map fun n => .one (.int n)) S1
  | .own k => onL (sget S1 k) fun xs => R (fun S2 => sget S2 k = some xs) (xs.map .one) S1
  | _ => False
theorem one_get {xs : List PV} {i : Nat} {it : AItem} (h : (xs.map AItem.one)[i]? = some it) : ∃ p, xs[i]? = some p ∧ it = .one p := by
  rw [List.getElem?_map] at h
  cases e : xs[i]? with
  | none => rw [e] at h; cases h
  | some p => rw [e] at h; cases h; exact ⟨p, rfl, rfl⟩
theorem yl_tup {a : Addr} {us : List V} {xs : List PV} (hq : SqT K W.I a us) (rs : VRs K W.I W.ad us xs) : Yl K W (Itt K a) cT (xs.map .one) where
  go := fun W' S H i l I' _ hi => by
    rw [List.length_map, ← rs.length] at hi
    exact ⟨us, _, SqT.up (l.ex.trans I'.exH) hq, List.getElem?_eq_getElem hi⟩
  stop := fun W' S H l I' _ => ⟨us, SqT.up (l.ex.trans I'.exH) hq, by rw [List.length_map, rs.length]; exact Nat.le_refl _⟩
  yld := fun W' S H i it x H' l I' _ e ⟨e1, e2⟩ => by
    subst e1
    obtain ⟨p, hp, rfl⟩ := one_get e
    obtain ⟨v, hv, rv⟩ := rs.get hp
    have := e2 us (SqT.up (l.ex.trans I'.exH) hq)
    rw [hv] at this
    cases this
    exact ⟨I', .one (rv.up l)⟩
theorem yl_lst {a : Addr} {us : List V} {xs : List PV} {C : Sto → Prop} (hq : ∀ W' S H, W.Lo W' → In K W' S H → C S → ∃ us, SqL K H a us ∧ VRs K W'.I W'.ad us xs) (un : ∀ H (us us' : List V), SqL K H a us → SqL K H a us' → us = us' ∨ True) : Yl K W (Itl K a) C (xs.map .one) where
  go := fun W' S H i l I' c hi => by
    obtain ⟨us, h1, h2⟩ := hq W' S H l I' c
    rw [List.length_map, ← h2.length] at hi
    exact ⟨us, _, h1, List.getElem?_eq_getElem hi⟩
  stop := fun W' S H l I' c => by
    obtain ⟨us, h1, h2⟩ := hq W' S H l I' c
    exact ⟨us, h1, by rw [List.length_map, h2.length]; exact Nat.le_refl _⟩
  yld := fun W' S H i it x H' l I' c e ⟨e1, e2⟩ => by
    subst e1
    obtain ⟨us, h1, h2⟩ := hq W' S _ l I' c
    obtain ⟨p, hp, rfl⟩ := one_get e
    obtain ⟨v, hv, rv⟩ := h2.get hp
    have := e2 us h1
    rw [hv] at this
    cases this
    exact ⟨I', .one rv⟩
theorem si_seq {te : TE} {f : ATE} (ha : SE K te f) : SI K (iSeq K te) (aSeq1 f) := ⟨fun {W S σ ρ H R P} I E h c =>
  ha.run I E h fun W1 S1 x p H1 l1 I1 r1 h1 => by
    cases r1 with
    | tup hf hs => exact ⟨_, _, rfl, .inr ⟨SqT.up I1.exH hf.sq, c _ _ _ _ _ _ l1 I1 (yl_tup hf.sq hs) h1⟩⟩
    | lst hl hs => exact ⟨_, _, rfl, .inl ⟨SqL.of (I1.exH _ _ hl), c _ _ _ _ _ _ l1 I1 (yl_lst (us := []) (fun W' S H l I' _ => ⟨_, SqL.of (I'.exH _ _ (l.ex _ _ hl)), hs.up l⟩) fun _ _ _ _ _ => .inr trivial) h1⟩⟩
    | scr hl =>
      rename_i a ns
      have h1 : P cT ((ns.map PV.int).map .one) S1 := by
        rw [List.map_map]
        exact h1
      exact ⟨_, _, rfl, .inl ⟨SqL.up I1.exH hl, c _ _ _ _ _ _ l1 I1 (yl_lst (us := []) (fun W' S H l I' _ => ⟨_, SqL.up (l.ex.trans I'.exH) hl, VRs.ints ns⟩) fun _ _ _ _ _ => .inr trivial) h1⟩⟩
    | own hk =>
      rename_i a k
      obtain ⟨xs, e, h2⟩ := onL_of h1
      obtain ⟨a', us, e1, e2, rs, _⟩ := I1.at (.own hk) (sget_eq e)
      cases e1
      refine ⟨_, _, rfl, .inl ⟨SqL.of e2, c _ _ _ _ _ _ l1 I1 (yl_lst (us := []) (fun W' S H l I' hc => ?_) fun _ _ _ _ _ => .inr trivial) h2⟩⟩
      obtain ⟨a'', us', e3, e4, rs', _⟩ := I'.at (.own (l.ad _ _ hk)) (sget_eq hc)
      cases e3
      exact ⟨us', SqL.of e4, rs'⟩
    | _ => exact h1.elim⟩
def rngI (lo : Int) (n : Nat) : List AItem := (List.range n).map fun i => .one (.int (lo + (i : Nat)))
@[reducible] def aRng1 (t : ATA) : ATI := fun ρ S R => t ρ S fun ps S1 => on1 ps fun x => onI x fun j => -(2 ^ 62) ≤ j ∧ j < 2 ^ 62 ∧ R cT (rngI 0 j.toNat) S1
@[reducible] def aRng2 (t : ATA) : ATI := fun ρ S R => t ρ S fun ps S1 => match ps with
  | [x, y] => onI2 x y fun i j => (-(2 ^ 62) ≤ i ∧ i < 2 ^ 62 ∧ -(2 ^ 62) ≤ j ∧ j < 2 ^ 62) ∧ R cT (rngI i (j - i).toNat) S1
  | _ => False
theorem rngI_get {lo : Int} {n i : Nat} {it : AItem} (h : (rngI lo n)[i]? = some it) : i < n ∧ it = .one (.int (lo + (i : Nat))) := by
  unfold rngI at h
  rw [List.getElem?_map] at h
  by_cases hi : i < n
  · rw [List.getElem?_range hi] at h
    cases h
    exact ⟨hi, rfl⟩
  · rw [List.getElem?_eq_none (by simpa using hi)] at h
    cases h
theorem rngI_len {lo : Int} {n : Nat} : (rngI lo n).length = n := by unfold rngI; simp
theorem yl_rng {lo : Int} {n : Nat} : Yl K W (Itr lo n) cT (rngI lo n) where
  go := fun W' S H i l I' _ hi => by rw [rngI_len] at hi; exact hi
  stop := fun W' S H l I' _ => by rw [rngI_len]; exact Nat.le_refl n
  yld := fun W' S H i it x H' l I' _ e ⟨e1, e2⟩ => by
    subst e1 e2
    obtain ⟨_, rfl⟩ := rngI_get e
    exact ⟨I', .one (.int _)⟩
theorem si_rng1 {t : TA} {f : ATA} (ha : SA K t f) : SI K (iRng1 t) (aRng1 f) := ⟨fun I E h c =>
  ha.run I E h fun W1 S1 xs ps H1 l1 I1 r1 h1 => by
    obtain ⟨v, p, rfl, rfl, r, h1⟩ := r1.on1 h1
    obtain ⟨j, rfl, _, h2, h3, h1⟩ := r.onI h1
    exact ⟨j, rfl, h2, h3, c _ _ _ _ _ _ l1 I1 yl_rng h1⟩⟩
theorem si_rng2 {t : TA} {f : ATA} (ha : SA K t f) : SI K (iRng2 t) (aRng2 f) := ⟨fun {W S σ ρ H R P} I E h c =>
  ha.run I E h fun W1 S1 xs ps H1 l1 I1 r1 h1 => by
    cases r1 with
    | nil => exact h1.elim
    | cons r1 r2 => cases r2 with
      | nil => exact h1.elim
      | cons r2 r3 => cases r3 with
        | cons _ _ => exact h1.elim
        | nil =>
          obtain ⟨i, j, rfl, rfl, h2, h1⟩ := r1.onI2 r2 (P := fun i j => (-(2 ^ 62) ≤ i ∧ i < 2 ^ 62 ∧ -(2 ^ 62) ≤ j ∧ j < 2 ^ 62) ∧ P cT (rngI i (j - i).toNat) S1) h1
          exact ⟨i, j, rfl, h2, c _ _ _ _ _ _ l1 I1 yl_rng h1⟩⟩
/-- a list or a tuple that stays as it is -/
@[reducible] def onF (x : PV) (P : List PV → Prop) : Prop := match x with
  | .tup xs => P xs
  | .lst xs => P xs
  | .scr ns => P (ns.map .int)
  | _ => False
theorem VR.onF {v : V} {p : PV} (r : VR K I ad v p) {P : List PV → Prop} (h : onF p P) : ∃ a us xs, v = .ref a ∧ (SqL K I a us ∨ SqT K I a us) ∧ VRs K I ad us xs ∧ P xs := by
  cases r with
  | tup hf hs => exact ⟨_, _, _, rfl, .inr hf.sq, hs, h⟩
  | lst hl hs => exact ⟨_, _, _, rfl, .inl (SqL.of hl), hs, h⟩
  | scr hl => exact ⟨_, _, _, rfl, .inl hl, VRs.ints _, h⟩
  | _ => exact h.elim
def enumI : Nat → List PV → List AItem
  | _, [] => []
  | n, x :: xs => .many [.int (n : Nat), x] :: enumI (n + 1) xs
theorem enumI_get : ∀ {xs : List PV} {n i : Nat} {it : AItem}, (enumI n xs)[i]? = some it → ∃ p, xs[i]? = some p ∧ it = .many [.int ((n + i : Nat) : Int), p]
  | [], _, _, _, h => by cases h
  | x :: xs, n, 0, it, h => by cases h; exact ⟨x, rfl, rfl⟩
  | x :: xs, n, i + 1, it, h => by
    obtain ⟨p, h1, h2⟩ := enumI_get (xs := xs) (n := n + 1) (i := i) h
    exact ⟨p, h1, by rw [h2, show n + 1 + i = n + (i + 1) by omega]⟩
theorem enumI_len : ∀ {xs : List PV} {n : Nat}, (enumI n xs).length = xs.length
  | [], _ => rfl
  | x :: xs, n => by rw [enumI, List.length_cons, List.length_cons, enumI_len]
def zipI : List PV → List PV → List AItem
  | x :: xs, y :: ys => .many [x, y] :: zipI xs ys
  | _, _ => []
theorem zipI_get : ∀ {xs ys : List PV} {i : Nat} {it : AItem}, (zipI xs ys)[i]? = some it → ∃ p q, xs[i]? = some p ∧ ys[i]? = some q ∧ it = .many [p, q]
  | [], _, _, _, h => by cases h
  | _ :: _, [], _, _, h => by cases h
  | x :: xs, y :: ys, 0, it, h => by cases h; exact ⟨x, y, rfl, rfl, rfl⟩
  | x :: xs, y :: ys, i + 1, it, h => by
    obtain ⟨p, q, h1, h2, h3⟩ := zipI_get (xs := xs) (ys := ys) (i := i) h
    exact ⟨p, q, h1, h2, h3⟩
theorem zipI_len : ∀ {xs ys : List PV}, (zipI xs ys).length = min xs.length ys.length
  | [], _ => by simp [zipI]
  | _ :: _, [] => by simp [zipI]
  | x :: xs, y :: ys => by rw [zipI, List.length_cons, List.length_cons, List.length_cons, zipI_len]; omega
theorem yl_u {n : Nat} {G : Hp → Prop} {Y : Nat → List V → Prop} {its : List AItem} (hn : its.length = n) (hG : ∀ W' S H, W.Lo W' → In K W' S H → G H) (hY : ∀ i it us, its[i]? = some it → Y i us → ∃ xs, it = .many xs ∧ VRs K W.I W.ad us xs) : Yl K W (Itu n G Y) cT its where
  go := fun W' S H i l I' _ hi => ⟨by rw [← hn]; exact hi, hG W' S H l I'⟩
  stop := fun W' S H l I' _ => ⟨hn, hG W' S H l I'⟩
  yld := fun W' S H i it x H' l I' _ e ⟨T, us, e1, e2, e3, y⟩ => by
    subst e1 e3
    obtain ⟨xs, rfl, rs⟩ := hY i it us e y
    exact ⟨I'.skip e2, .many (SqT.of upd_same) (rs.up l)⟩
@[reducible] def aEnum (t : ATA) : ATI := fun ρ S R => t ρ S fun ps S1 => on1 ps fun x => onF x fun xs => R cT (enumI 0 xs) S1
theorem si_enum {t : TA} {f : ATA} (ha : SA K t f) : SI K (iEnumS K t) (aEnum f) := ⟨fun I E h c =>
  ha.run I E h fun W1 S1 xs ps H1 l1 I1 r1 h1 => by
    obtain ⟨v, p, rfl, rfl, r, h1⟩ := r1.on1 h1
    obtain ⟨a, us, ys, rfl, hq, rs, h1⟩ := r.onF h1
    have hY : ∀ i it vs, (enumI 0 ys)[i]? = some it → YEnum us i vs → ∃ xs, it = .many xs ∧ VRs K W1.I W1.ad vs xs := fun i it vs e ⟨x, hx, eu⟩ => by
      obtain ⟨p, hp, rfl⟩ := enumI_get e
      obtain ⟨v, hv, rv⟩ := rs.get hp
      rw [hx] at hv
      cases hv
      subst eu
      exact ⟨_, rfl, .cons (by rw [Nat.zero_add]; exact .int _) (.cons rv .nil)⟩
    have hn : (enumI 0 ys).length = us.length := by rw [enumI_len, rs.length]
    rcases hq with hq | hq
    · exact ⟨a, us, rfl, .inl ⟨SqL.up I1.exH hq, c _ _ _ _ _ _ l1 I1 (yl_u hn (fun W' S H l I' => SqL.up (l.ex.trans I'.exH) hq) hY) h1⟩⟩
    · exact ⟨a, us, rfl, .inr ⟨SqT.up I1.exH hq, c _ _ _ _ _ _ l1 I1 (yl_u hn (fun W' S H l I' => SqT.up (l.ex.trans I'.exH) hq) hY) h1⟩⟩⟩
@[reducible] def aZip (t : ATA) : ATI := fun ρ S R => t ρ S fun ps S1 => match ps with
  | [x, y] => onF x fun xs => onF y fun ys => R cT (zipI xs ys) S1
  | _ => False
theorem si_zip {t : TA} {f : ATA} (ha : SA K t f) : SI K (iZipS K t) (aZip f) := ⟨fun {W S σ ρ H R P} I E h c =>
  ha.run I E h fun W1 S1 xs ps H1 l1 I1 r1 h1 => by
    cases r1 with
    | nil => exact h1.elim
    | cons r1 r2 => cases r2 with
      | nil => exact h1.elim
      | cons r2 r3 => cases r3 with
        | cons _ _ => exact h1.elim
        | nil =>
          obtain ⟨a, us, xs, rfl, hq, rs, h1⟩ := r1.onF (P := fun xs => onF _ fun ys => P cT (zipI xs ys) S1) h1
          obtain ⟨b, ws, ys, rfl, hq2, rs2, h1⟩ := r2.onF h1
          have hY : ∀ i it vs, (zipI xs ys)[i]? = some it → YZip us ws i vs → ∃ xs, it = .many xs ∧ VRs K W1.I W1.ad vs xs := fun i it vs e ⟨x, y, hx, hy, eu⟩ => by
            obtain ⟨p, q, hp, hq, rfl⟩ := zipI_get e
            obtain ⟨v, hv, rv⟩ := rs.get hp
            obtain ⟨v2, hv2, rv2⟩ := rs2.get hq
            rw [hx] at hv
            rw [hy] at hv2
            cases hv
            cases hv2
            subst eu
            exact ⟨_, rfl, .cons rv (.cons rv2 .nil)⟩
          have hn : (zipI xs ys).length = min us.length ws.length := by rw [zipI_len, rs.length, rs2.length]
          refine ⟨a, b, us, ws, rfl, ?_⟩
          rcases hq with hq | hq <;> rcases hq2 with hq2 | hq2
          · exact .inl ⟨SqL.up I1.exH hq, SqL.up I1.exH hq2, c _ _ _ _ _ _ l1 I1 (yl_u hn (fun W' S H l I' => ⟨SqL.up (l.ex.trans I'.exH) hq, SqL.up (l.ex.trans I'.exH) hq2⟩) hY) h1⟩
          · exact .inr (.inl ⟨SqL.up I1.exH hq, SqT.up I1.exH hq2, c _ _ _ _ _ _ l1 I1 (yl_u hn (fun W' S H l I' => ⟨SqL.up (l.ex.trans I'.exH) hq, SqT.up (l.ex.trans I'.exH) hq2⟩) hY) h1⟩)
          · exact .inr (.inr (.inl ⟨SqT.up I1.exH hq, SqL.up I1.exH hq2, c _ _ _ _ _ _ l1 I1 (yl_u hn (fun W' S H l I' => ⟨SqT.up (l.ex.trans I'.exH) hq, SqL.up (l.ex.trans I'.exH) hq2⟩) hY) h1⟩))
          · exact .inr (.inr (.inr ⟨SqT.up I1.exH hq, SqT.up I1.exH hq2, c _ _ _ _ _ _ l1 I1 (yl_u hn (fun W' S H l I' => ⟨SqT.up (l.ex.trans I'.exH) hq, SqT.up (l.ex.trans I'.exH) hq2⟩) hY) h1⟩))⟩
end
end L5

/-! readings over trees: statements, loops, comprehensions, defs. -/
namespace L5
open PySem PySem.Spec PyProof.Rows L2 L3
structure AEnds where
  nx : AEnv → Sto → Prop
  rt : AV
  bk : AEnv → Sto → Prop := fun _ _ => False
  ct : AEnv → Sto → Prop := fun _ _ => False
abbrev ATS := AEnds → AEnv → Sto → Prop
section
variable (K : PySem.W.Frag)
def CS (W : Wd) (P : AEnv → Sto → Prop) (Q : St → Hp → Prop) : Prop := ∀ W' S σ ρ H, W.Le W' → In K W' S H → ER K W' σ ρ → P ρ S → Q σ H
structure SEnds (W : Wd) (D : Ends) (D' : AEnds) : Prop where
  nx : CS K W D'.nx D.nx
  rt : CE K W D'.rt D.rt
  bk : CS K W D'.bk D.bk
  ct : CS K W D'.ct D.ct
structure SS (t : TS) (f : ATS) : Prop where
  run : ∀ {W S σ ρ H D D'}, In K W S H → ER K W σ ρ → f D' ρ S → SEnds K W D D' → t D σ H
end
section
variable {K : PySem.W.Frag} {W W' : Wd} {S : Sto} {H : Hp} {P : AV} {Q : VK} {I : Hp} {ad : List Addr}
theorem CS.up {P : AEnv → Sto → Prop} {Q : St → Hp → Prop} (l : W.Le W') (c : CS K W P Q) : CS K W' P Q := fun W2 S σ ρ H k I E h => c W2 S σ ρ H (l.trans k) I E h
theorem SEnds.up {D : Ends} {D' : AEnds} (l : W.Le W') (c : SEnds K W D D') : SEnds K W' D D' := ⟨c.nx.up l, c.rt.up l, c.bk.up l, c.ct.up l⟩
variable {t u : TS} {f g : ATS} {te : TE} {fe : ATE} {tt : TT} {ft : ATT} {ta : TA} {fa : ATA}
@[reducible] def aNext : ATS := fun D ρ S => D.nx ρ S
@[reducible] def aSeq (s t : ATS) : ATS := fun D ρ S => s { nx := t D, rt := D.rt, bk := D.bk, ct := D.ct } ρ S
def aJoin (s t : ATS) : ATS := fun D ρ S => ∃ M : AEnv → Sto → Prop, s { nx := M, rt := D.rt, bk := D.bk, ct := D.ct } ρ S ∧ ∀ ρ' S', M ρ' S' → t D ρ' S'
@[reducible] def aBreak : ATS := fun D ρ S => D.bk ρ S
@[reducible] def aCont : ATS := fun D ρ S => D.ct ρ S
@[reducible] def aDrop (e : ATE) : ATS := fun D ρ S => e ρ S fun _ S1 => D.nx ρ S1
@[reducible] def aRet (e : ATE) : ATS := fun D ρ S => e ρ S D.rt
@[reducible] def aRetN : ATS := fun D _ S => D.rt .non S
@[reducible] def aIfS (c : ATT) (s t : ATS) : ATS := fun D ρ S => c ρ S fun b S1 => br b (s D ρ S1) (t D ρ S1)
@[reducible] def aAsg (e : ATE) (g : AG) : ATS := fun D ρ S => e ρ S fun x S1 => g (.one x) ρ S1 D.nx
@[reducible] def aPar (i j : Nat) (a : ATA) : ATS := fun D ρ S => a ρ S fun ps S1 => match ps with
  | [p, q] => setE ρ i p fun ρ1 => setE ρ1 j q fun ρ2 => D.nx ρ2 S1
  | _ => False
@[reducible] def aPar3 (i j l : Nat) (a : ATA) : ATS := fun D ρ S => a ρ S fun ps S1 => match ps with
  | [p, q, r] => setE ρ i p fun ρ1 => setE ρ1 j q fun ρ2 => setE ρ2 l r fun ρ3 => D.nx ρ3 S1
  | _ => False
@[reducible] def aAug (i : Nat) (e : ATE) (g : A2) : ATS := fun D ρ S => match look ρ i with
  | some p => e ρ S fun y S1 => g p y S1 fun z S2 => setE ρ i z fun ρ1 => D.nx ρ1 S2
  | none => False
theorem ss_nil : SS K tNext aNext := ⟨fun I E h c => c.nx _ _ _ _ _ (.refl _) I E h⟩
theorem ss_cons (h1 : SS K t f) (h2 : SS K u g) : SS K (tSeq t u) (aSeq f g) := ⟨fun I E h c =>
  h1.run I E h ⟨fun W1 S1 σ1 ρ1 H1 l I1 E1 k => h2.run I1 E1 k (c.up l), c.rt, c.bk, c.ct⟩⟩
theorem ss_join (h1 : SS K t f) (h2 : SS K u g) : SS K (tJoin t u) (aJoin f g) := ⟨fun {W S σ ρ H D D'} I E ⟨M, h, k⟩ c =>
  ⟨fun τ G => ∃ W' S' ρ', W.Le W' ∧ In K W' S' G ∧ ER K W' τ ρ' ∧ M ρ' S',
    h1.run I E h ⟨fun W1 S1 σ1 ρ1 H1 l I1 E1 k => ⟨W1, S1, ρ1, l, I1, E1, k⟩, c.rt, c.bk, c.ct⟩,
    fun τ G ⟨W', S', ρ', l, I', E', m⟩ => h2.run I' E' (k ρ' S' m) (c.up l)⟩⟩
theorem ss_break : SS K tBreak aBreak := ⟨fun I E h c => c.bk _ _ _ _ _ (.refl _) I E h⟩
theorem ss_cont : SS K tCont aCont := ⟨fun I E h c => c.ct _ _ _ _ _ (.refl _) I E h⟩
theorem ss_expr (he : SE K te fe) : SS K (tDrop te) (aDrop fe) := ⟨fun I E h c =>
  he.run I E h fun W1 S1 x p H1 l1 I1 r1 h1 => c.nx _ _ _ _ _ l1 I1 (E.up l1.toLo) h1⟩
theorem ss_ret (he : SE K te fe) : SS K (tRet te) (aRet fe) := ⟨fun I E h c => he.run I E h c.rt⟩
theorem ss_retN : SS K tRetN aRetN := ⟨fun I E h c => c.rt.at I .non h⟩
theorem ss_if (hc : STs K tt ft) (h1 : SS K t f) (h2 : SS K u g) : SS K (tIfS tt t u) (aIfS ft f g) := ⟨fun I E h c =>
  hc.run I E h fun W1 S1 k H1 l1 I1 h3 => by
    cases k with
    | true => rw [if_pos rfl]; exact h1.run I1 (E.up l1.toLo) (h3.t rfl) (c.up l1)
    | false => rw [if_neg Bool.false_ne_true]; exact h2.run I1 (E.up l1.toLo) (h3.f rfl) (c.up l1)⟩
theorem ss_asg {g : TG} {fg : AG} {ws : List Nat} (he : SE K te fe) (hg : SG K g fg ws) : SS K (tAsg te g) (aAsg fe fg) := ⟨fun I E h c =>
  he.run I E h fun W1 S1 x p H1 l1 I1 r1 h1 => hg.run I1 (E.up l1.toLo) (.one r1) h1 fun W2 S2 σ2 ρ2 H2 l2 I2 E2 _ k => c.nx _ _ _ _ _ (l1.trans l2) I2 E2 k⟩
theorem ss_par {i j : Nat} (ha : SA K ta fa) : SS K (tPar i j ta) (aPar i j fa) := ⟨fun I E h c =>
  ha.run I E h fun W1 S1 xs ps H1 l1 I1 r1 h1 => by
    cases r1 with
    | nil => exact h1.elim
    | cons r1 r2 => cases r2 with
      | nil => exact h1.elim
      | cons r2 r3 => cases r3 with
        | cons _ _ => exact h1.elim
        | nil => exact ⟨_, _, rfl, c.nx _ _ _ _ _ l1 I1 (((E.up l1.toLo).put r1 i).put r2 j) h1.h.h⟩⟩
theorem ss_par3 {i j l : Nat} (ha : SA K ta fa) : SS K (tPar3 i j l ta) (aPar3 i j l fa) := ⟨fun I E h c =>
  ha.run I E h fun W1 S1 xs ps H1 l1 I1 r1 h1 => by
    cases r1 with
    | nil => exact h1.elim
    | cons r1 r2 => cases r2 with
      | nil => exact h1.elim
      | cons r2 r3 => cases r3 with
        | nil => exact h1.elim
        | cons r3 r4 => cases r4 with
          | cons _ _ => exact h1.elim
          | nil => exact ⟨_, _, _, rfl, c.nx _ _ _ _ _ l1 I1 ((((E.up l1.toLo).put r1 i).put r2 j).put r3 l) h1.h.h.h⟩⟩
theorem ss_aug {i : Nat} {r : R2} {g : A2} (he : SE K te fe) (hr : SO K r g) : SS K (tAug i te r) (aAug i fe g) := ⟨fun {W S σ ρ H D D'} I E h c => by
  unfold aAug at h
  cases e : look ρ i with
  | none => rw [e] at h; exact h.elim
  | some p =>
    rw [e] at h
    obtain ⟨v, h1, h2⟩ := E.look e
    exact ⟨v, h1, he.run I E h fun W1 S1 y q H1 l1 I1 r1 k1 => hr.run I1 (h2.up l1.toLo) r1 k1 fun W2 S2 z pz H2 l2 I2 r2 k2 => c.nx _ _ _ _ _ (l1.trans l2) I2 ((E.up (l1.trans l2).toLo).put r2 i) k2.h⟩⟩
/-! ### loops -/
def aLoop (C : Sto → Prop) (its : List AItem) (g : AG) (b : ATS) (D : AEnds) (ρ : AEnv) (S : Sto) : Prop :=
  ∃ Iv : Nat → AEnv → Sto → Prop, Iv 0 ρ S ∧ ∀ i ρ S, Iv i ρ S → C S ∧ ((i = its.length ∧ D.nx ρ S) ∨ ∃ it, its[i]? = some it ∧ g it ρ S fun ρ1 S1 => b { nx := Iv (i + 1), ct := Iv (i + 1), bk := D.nx, rt := D.rt } ρ1 S1)
@[reducible] def aFor (w : ATI) (g : AG) (b : ATS) : ATS := fun D ρ S => w ρ S fun C its S1 => aLoop C its g b D ρ S1
theorem ss_for {wi : TI} {fi : ATI} {g : TG} {fg : AG} {ws : List Nat} (hi : SI K wi fi) (hg : SG K g fg ws) (hb : SS K t f) : SS K (tFor wi g t) (aFor fi fg f) := ⟨fun {W S σ ρ H D D'} I E h c =>
  hi.run I E h fun W1 S1 J C its H1 l1 I1 y ⟨Iv, h0, step⟩ => by
    refine ⟨fun i m σ H => ∃ W2 S2 ρ2, W1.Le W2 ∧ In K W2 S2 H ∧ ER K W2 σ ρ2 ∧ Iv i ρ2 S2 ∧ i ≤ its.length ∧ m = its.length - i, ⟨its.length - 0, W1, S1, ρ, .refl _, I1, E.up l1.toLo, h0, Nat.zero_le _, rfl⟩, ?_⟩
    rintro i m σ2 H2 ⟨W2, S2, ρ2, l2, I2, E2, iv, hle, rfl⟩
    obtain ⟨hC, h⟩ := step i ρ2 S2 iv
    rcases h with ⟨rfl, h⟩ | ⟨it, e, h⟩
    · exact .inl ⟨y.stop W2 S2 H2 l2.toLo I2 hC, c.nx _ _ _ _ _ (l1.trans l2) I2 E2 h⟩
    · have hlt := (List.getElem?_eq_some_iff.mp e).1
      refine .inr ⟨y.go W2 S2 H2 i l2.toLo I2 hC hlt, fun σ H => ∃ W3 S3 ρ3, W1.Le W3 ∧ In K W3 S3 H ∧ ER K W3 σ ρ3 ∧ Iv (i + 1) ρ3 S3, fun σ3 H3 ⟨W3, S3, ρ3, l3, I3, E3, iv3⟩ => ⟨its.length - (i + 1), by omega, W3, S3, ρ3, l3, I3, E3, iv3, hlt, rfl⟩, fun x H3 hy => ?_⟩
      obtain ⟨I3, r3⟩ := y.yld W2 S2 H2 i it x H3 l2.toLo I2 hC e hy
      exact hg.run I3 E2 r3 h fun W4 S4 σ4 ρ4 H4 l4 I4 E4 _ k4 => hb.run I4 E4 k4
        ⟨fun W5 S5 σ5 ρ5 H5 l5 I5 E5 k5 => ⟨W5, S5, ρ5, (l2.trans l4).trans l5, I5, E5, k5⟩, c.rt.up ((l1.trans l2).trans l4), c.nx.up ((l1.trans l2).trans l4), fun W5 S5 σ5 ρ5 H5 l5 I5 E5 k5 => ⟨W5, S5, ρ5, (l2.trans l4).trans l5, I5, E5, k5⟩⟩⟩
def aWhile (cn : ATT) (b : ATS) : ATS := fun D ρ S =>
  ∃ Iv : Nat → AEnv → Sto → Prop, (∃ m, Iv m ρ S) ∧ ∀ m ρ S, Iv m ρ S → cn ρ S fun k S1 => br k (∃ N : AEnv → Sto → Prop, (∀ ρ' S', N ρ' S' → ∃ m', m' < m ∧ Iv m' ρ' S') ∧ b { nx := N, ct := N, bk := D.nx, rt := D.rt } ρ S1) (D.nx ρ S1)
theorem ss_while (hc : STs K tt ft) (hb : SS K t f) : SS K (tWhile tt t) (aWhile ft f) := ⟨fun {W S σ ρ H D D'} I E ⟨Iv, ⟨m0, h0⟩, step⟩ c => by
  refine ⟨fun m σ H => ∃ W2 S2 ρ2, W.Le W2 ∧ In K W2 S2 H ∧ ER K W2 σ ρ2 ∧ Iv m ρ2 S2, ⟨m0, W, S, ρ, .refl _, I, E, h0⟩, ?_⟩
  rintro m σ2 H2 ⟨W2, S2, ρ2, l2, I2, E2, iv⟩
  refine hc.run I2 E2 (step m ρ2 S2 iv) fun W3 S3 k H3 l3 I3 h3 => ?_
  cases k with
  | false => rw [if_neg Bool.false_ne_true]; exact c.nx _ _ _ _ _ (l2.trans l3) I3 (E2.up l3.toLo) (h3.f rfl)
  | true =>
    rw [if_pos rfl]
    obtain ⟨N, hN, h4⟩ := h3.t rfl
    refine ⟨fun σ H => ∃ W4 S4 ρ4, W.Le W4 ∧ In K W4 S4 H ∧ ER K W4 σ ρ4 ∧ N ρ4 S4, fun σ4 H4 ⟨W4, S4, ρ4, l4, I4, E4, n4⟩ => ?_, ?_⟩
    · obtain ⟨m', hm, iv'⟩ := hN ρ4 S4 n4
      exact ⟨m', hm, W4, S4, ρ4, l4, I4, E4, iv'⟩
    · exact hb.run I3 (E2.up l3.toLo) h4 ⟨fun W5 S5 σ5 ρ5 H5 l5 I5 E5 k5 => ⟨W5, S5, ρ5, (l2.trans l3).trans l5, I5, E5, k5⟩, c.rt.up (l2.trans l3), c.nx.up (l2.trans l3), fun W5 S5 σ5 ρ5 H5 l5 I5 E5 k5 => ⟨W5, S5, ρ5, (l2.trans l3).trans l5, I5, E5, k5⟩⟩⟩
/-! ### comprehensions -/
def aComp (C : Sto → Prop) (its : List AItem) (g : AG) (at' : ATT) (ae : ATE) (ρ : AEnv) (S : Sto) (R : List PV → Sto → Prop) : Prop :=
  ∃ Iv : Nat → Sto → List PV → Prop, Iv 0 S [] ∧ ∀ i S acc, Iv i S acc → C S ∧ ((i = its.length ∧ R acc S) ∨ ∃ it, its[i]? = some it ∧ g it ρ S fun ρ2 S2 => at' ρ2 S2 fun b S3 =>
    br b (ae ρ2 S3 fun y S4 => acc.length < sizeLine ∧ Iv (i + 1) S4 (acc ++ [y])) (Iv (i + 1) S3 acc))
@[reducible] def aLc (w : ATI) (g : AG) (at' : ATT) (ae : ATE) (vs : List Nat) : ATE := fun ρ S P => w ρ S fun C its S1 => aComp C its g at' ae (hides ρ vs) S1 fun acc S2 => P (.lst acc) S2
@[reducible] def aLcO (w : ATI) (g : AG) (at' : ATT) (ae : ATE) (vs : List Nat) : ATE := fun ρ S P => w ρ S fun C its S1 => aComp C its g at' ae (hides ρ vs) S1 fun acc S2 => newO S2 (.lst acc) P
theorem lc_core {wi : TI} {fi : ATI} {g : TG} {fg : AG} {ws vs : List Nat} (hi : SI K wi fi) (hg : SG K g fg ws) (hw : ∀ i ∈ ws, i ∈ vs) (ht : STs K tt ft) (he : SE K te fe) {σ : St} {ρ : AEnv} {R : List PV → Sto → Prop} (I : In K W S H) (E : ER K W σ ρ)
    (h : fi ρ S fun C its S1 => aComp C its fg ft fe (hides ρ vs) S1 R)
    (c : ∀ W' S' p us acc H', W.Le W' → In K ⟨W'.I, W'.ad, (p, .lst us) :: W'.fr⟩ S' H' → VRs K W'.I W'.ad us acc → R acc S' → Q (.ref p) H') : tLc wi g tt te vs σ H Q :=
  hi.run I E h fun W1 S1 J C its H1 l1 I1 y ⟨Iv, h0, step⟩ => by
    intro D hD
    refine ⟨fun i m H => ∃ W2 S2 us acc, W1.Le W2 ∧ In K ⟨W2.I, W2.ad, (D, .lst us) :: W1.fr⟩ S2 H ∧ VRs K W2.I W2.ad us acc ∧ Iv i S2 acc ∧ i ≤ its.length ∧ m = its.length - i, ⟨its.length - 0, W1, S1, [], [], .refl _, I1.push hD, .nil, h0, Nat.zero_le _, rfl⟩, ?_⟩
    rintro i m H2 ⟨W2, S2, us, acc, l2, I2, ra, iv, hle, rfl⟩
    obtain ⟨hC, h⟩ := step i S2 acc iv
    have lo : W1.Lo ⟨W2.I, W2.ad, (D, .lst us) :: W1.fr⟩ := ⟨l2.ex, l2.ad⟩
    rcases h with ⟨rfl, h⟩ | ⟨it, e, h⟩
    · refine .inl ⟨y.stop _ S2 H2 lo I2 hC, c W2 S2 D us acc H2 (l1.trans l2) ?_ ra h⟩
      rw [l2.fr]
      exact I2
    · have hlt := (List.getElem?_eq_some_iff.mp e).1
      refine .inr ⟨y.go _ S2 H2 i lo I2 hC hlt, fun H => ∃ W3 S3 us3 acc3, W1.Le W3 ∧ In K ⟨W3.I, W3.ad, (D, .lst us3) :: W1.fr⟩ S3 H ∧ VRs K W3.I W3.ad us3 acc3 ∧ Iv (i + 1) S3 acc3, fun H3 ⟨W3, S3, us3, acc3, l3, I3, r3, iv3⟩ => ⟨its.length - (i + 1), by omega, W3, S3, us3, acc3, l3, I3, r3, iv3, hlt, rfl⟩, fun x H3 hy => ?_⟩
      obtain ⟨I3, r3⟩ := y.yld _ S2 H2 i it x H3 lo I2 hC e hy
      have E3 : ER K ⟨W2.I, W2.ad, (D, .lst us) :: W1.fr⟩ (wipe σ vs) (hides ρ vs) := (E.wipe vs).up (W' := ⟨W2.I, W2.ad, (D, .lst us) :: W1.fr⟩) ⟨l1.ex.trans l2.ex, fun k a e => l2.ad k a (l1.ad k a e)⟩
      refine hg.run I3 E3 r3 h fun W4 S4 σ4 ρ4 H4 l4 I4 E4 fx k4 => ⟨?_, ht.run I4 E4 k4 fun W5 S5 b H5 l5 I5 k5 => ?_⟩
      · have := fx vs hw
        rw [this]
        have idem : ∀ (zs vs : List Nat), (∀ i ∈ zs, i ∈ vs) → wipe (wipe σ vs) zs = wipe σ vs := by
          intro zs vs hz
          induction zs with
          | nil => rfl
          | cons z zs ih =>
            show (wipe (wipe σ vs) zs).set z none = wipe σ vs
            rw [ih fun i hi => hz i (List.mem_cons_of_mem _ hi)]
            have hm := hz z List.mem_cons_self
            clear ih hz
            have none_at : ∀ {vs : List Nat}, z ∈ vs → (wipe σ vs).set z none = wipe σ vs := by
              intro vs
              induction vs with
              | nil => intro h; cases h
              | cons v vs ih =>
                intro h
                unfold wipe
                by_cases hv : z = v
                · subst hv; rw [List.set_set]
                · rcases List.mem_cons.mp h with rfl | h
                  · exact absurd rfl hv
                  · rw [List.set_comm _ _ (fun e => hv e.symm), ih h]
            exact none_at hm
        exact idem vs vs fun _ h => h
      · have l45 := l4.trans l5
        cases b with
        | false =>
          rw [if_neg Bool.false_ne_true]
          have k5 : Iv (i + 1) S5 acc := k5.f rfl
          obtain ⟨I5x, ad5, fr5⟩ := W5
          have hf : fr5 = (D, .lst us) :: W1.fr := l45.fr
          subst hf
          exact ⟨⟨I5x, ad5, W1.fr⟩, S5, us, acc, ⟨⟨l2.ex.trans l45.ex, fun k a e => l45.ad k a (l2.ad k a e)⟩, rfl⟩, I5, ra.up (W := ⟨W2.I, W2.ad, []⟩) (W' := ⟨I5x, ad5, []⟩) ⟨l45.ex, l45.ad⟩, k5⟩
        | true =>
          rw [if_pos rfl]
          refine he.run I5 (E4.up l5.toLo) (k5.t rfl) fun W6 S6 z pz H6 l6 I6 r6 ⟨hz, k6⟩ => ?_
          have l46 := l45.trans l6
          obtain ⟨I6x, ad6, fr6⟩ := W6
          have hf : fr6 = (D, .lst us) :: W1.fr := l46.fr
          subst hf
          obtain ⟨hD6, up⟩ := I6.pop
          have ra6 : VRs K I6x ad6 us acc := ra.up (W := ⟨W2.I, W2.ad, []⟩) (W' := ⟨I6x, ad6, []⟩) ⟨l46.ex, l46.ad⟩
          exact ⟨us, hD6, by rw [ra.length]; exact hz, ⟨I6x, ad6, W1.fr⟩, S6, us ++ [z], acc ++ [pz], ⟨⟨l2.ex.trans l46.ex, fun k a e => l46.ad k a (l2.ad k a e)⟩, rfl⟩, up _, ra6.append (.cons r6 .nil), k6⟩
theorem se_lc {wi : TI} {fi : ATI} {g : TG} {fg : AG} {ws vs : List Nat} (hi : SI K wi fi) (hg : SG K g fg ws) (hw : ∀ i ∈ ws, i ∈ vs) (ht : STs K tt ft) (he : SE K te fe) : SE K (tLc wi g tt te vs) (aLc fi fg ft fe vs) := ⟨fun {W S σ ρ H Q P} I E h c =>
  lc_core hi hg hw ht he I E h fun W' S' p us acc H' l I' r k => by
    obtain ⟨I2, l2, r2⟩ := I'.fin r
    exact c _ _ _ _ _ ⟨⟨l.ex.trans l2.ex, fun k a e => l2.ad k a (l.ad k a e)⟩, l.fr⟩ I2 r2 k⟩
theorem se_lcO {wi : TI} {fi : ATI} {g : TG} {fg : AG} {ws vs : List Nat} (hi : SI K wi fi) (hg : SG K g fg ws) (hw : ∀ i ∈ ws, i ∈ vs) (ht : STs K tt ft) (he : SE K te fe) : SE K (tLc wi g tt te vs) (aLcO fi fg ft fe vs) := ⟨fun {W S σ ρ H Q P} I E h c =>
  lc_core hi hg hw ht he I E h fun W' S' p us acc H' l I' r k => by
    obtain ⟨I2, l2, r2⟩ := I'.finO r
    exact c _ _ _ _ _ ⟨⟨l.ex.trans l2.ex, fun k a e => l2.ad k a (l.ad k a e)⟩, l.fr⟩ I2 r2 k.h⟩
/-! ### defs -/
def cSp (K : PySem.W.Frag) (g : AL) : Sp := fun vs H Q _ => ∃ W S ps P, In K W S H ∧ VRs K W.I W.ad vs ps ∧ g ps S P ∧ CE K W P Q
theorem se_call {g : AL} (ha : SA K ta fa) : SE K (tCall (cSp K g) [] E0 ta) (aCB g fa) := ⟨fun {W S σ ρ H Q P} I E h c =>
  ha.run I E h fun W1 S1 xs ps H1 l1 I1 r1 h1 => ⟨W1, S1, ps, P, I1, by rw [List.append_nil]; exact r1, h1, c.up l1⟩⟩
@[reducible] def startA : List Str → List PV → AEnv
  | [], _ => []
  | _ :: N, v :: vs => some v :: startA N vs
  | _ :: N, [] => none :: startA N []
theorem ER.start : ∀ {N : List Str} {us : List V} {ps : List PV}, VRs K W.I W.ad us ps → us.length ≤ N.length → ER K W (L2.start N us) (startA N ps)
  | [], us, ps, r, h => by
    cases r with
    | nil => exact .nil
    | cons _ _ => exact absurd h (by simp)
  | x :: N, us, ps, r, h => by
    cases r with
    | nil =>
      have e : L2.start (x :: N) [] = none :: L2.start N [] := by unfold L2.start; simp [List.replicate_succ]
      rw [e]
      exact .any (ER.start (us := []) (ps := []) .nil (Nat.zero_le _))
    | cons r rs =>
      rename_i v p vs qs
      have e : L2.start (x :: N) (v :: vs) = some v :: L2.start N vs := by unfold L2.start; simp
      rw [e]
      exact .cons r (ER.start rs (by simpa using h))
theorem okA {P : Program} {w : World} {mg : Str → Option Value} {base : Heap} {x qual : Str} {st : Stmt} {f : Addr} {fd : FuncData} {N ps : List Str} {k : Nat} {asp : AL} {t : TS} {fs : ATS} (F : Fun K x qual st f fd) (Sc : FnScope N ps (defScope st))
    (hp : ∀ (cdv : Value) (A : Around) (outer : List Env) (s : Shared) (H : Hp) (E : XK), (A.deeper (envOfC qual (defScope st) s.heap.objs.size f cdv)).guards = some [] → Room k (A.deeper (envOfC qual (defScope st) s.heap.objs.size f cdv)) → PSs (cxOf CX0 P w K mg base N qual (defScope st) f cdv A outer s H E).nox (defBody st) t)
    (hs : SS K t fs) (hN : ps.length ≤ N.length) (hlen : ∀ vs S R, asp vs S R → vs.length = ps.length) (h : ∀ vs S R, asp vs S R → fs { nx := fun _ S => R .non S, rt := R } (startA N vs) S) : FnG P w K mg base CX0 (k + 1) f fd ps (cSp K asp) := by
  refine okG F Sc (fun vs H Q E h => ?_) (fun cdv A outer s H vs Q E hgd hr h2 => ⟨t, hp cdv A outer s H E hgd hr, ?_⟩)
  · obtain ⟨W, S, qs, R, _, r, h3, _⟩ := h
    rw [r.length]
    exact hlen _ _ _ h3
  · obtain ⟨W, S, qs, R, I, r, h3, c⟩ := h2
    exact hs.run I (ER.start r (by rw [r.length, hlen _ _ _ h3]; exact hN)) (h _ _ _ h3) ⟨fun W' S' σ ρ H' l I' _ k => c _ _ _ _ _ l I' .non k, c, fun _ _ _ _ _ _ _ _ k => k.elim, fun _ _ _ _ _ _ _ _ k => k.elim⟩
end
/-- a def called by keywords: the arguments in another order -/
def pickL {α : Type} (sel : List Nat) (vs : List α) : List α := sel.filterMap fun i => vs[i]?
def askOf (sel : List Nat) (n : Nat) (g : AL) : AL := fun vs S P => vs.length = n ∧ g (pickL sel vs) S P
theorem VRs.pick {K : PySem.W.Frag} {I : Hp} {ad : List Addr} {vs : List V} {ps : List PV} (h : VRs K I ad vs ps) : ∀ sel : List Nat, VRs K I ad (pickL sel vs) (pickL sel ps)
  | [] => .nil
  | i :: sel => by
    have ih := VRs.pick h sel
    unfold pickL at ih ⊢
    rw [List.filterMap_cons, List.filterMap_cons]
    cases e : vs[i]? with
    | none =>
      have e2 : ps[i]? = none := by
        rw [List.getElem?_eq_none_iff] at e ⊢
        rw [← h.length]; exact e
      rw [e2]
      exact ih
    | some v =>
      obtain ⟨p, hp, r⟩ := h.getV e
      rw [hp]
      exact .cons r ih
theorem vals_pick {vs : List V} {us : List Value} (h : Vals vs us) : ∀ sel : List Nat, Vals (pickL sel vs) (pickL sel us)
  | [] => .nil
  | i :: sel => by
    have ih := vals_pick h sel
    have hl : vs.length = us.length := h.length
    unfold pickL at ih ⊢
    rw [List.filterMap_cons, List.filterMap_cons]
    cases e : vs[i]? with
    | none =>
      have e2 : us[i]? = none := by
        rw [List.getElem?_eq_none_iff] at e ⊢
        rw [← hl]; exact e
      rw [e2]
      exact ih
    | some v =>
      obtain ⟨u, hu, r⟩ := h.get e
      rw [hu]
      exact .cons r ih
theorem cgk_of {P : Program} {w : World} {K : PySem.W.Frag} {mg : Str → Option Value} {base : Heap} {k : Nat} {x : Str} {f : Addr} {fd : FuncData} {ps ks : List Str} {g : AL} (sel : List Nat) (F : FnG P w K mg base CX0 k f fd ps (cSp K g)) (hm : mg x = some (.ref f)) (kp : PySem.W.keepIn K (.ref f) = true)
    (to : ∀ (s : Shared) (ws : List Value), K.In s.heap → ws.length = ks.length → BindsTo s fd ⟨[], ks.zip ws⟩ (ps.zip (pickL sel ws))) : Cgk P w K mg base CX0 k x ks (cSp K (askOf sel ks.length g)) :=
  ⟨⟨f, fd, ps, pickL sel, pickL sel, _, F, hm, kp, to, fun zs ws _ h => vals_pick h sel, fun zs H Q E h => by
    obtain ⟨W, S, qs, R, I, r, ⟨hl, hg⟩, c⟩ := h
    exact ⟨by rw [r.length]; exact hl, W, S, _, R, I, r.pick sel, hg, c⟩⟩⟩
/-- how a law's def begins -/
theorem law_start {K : PySem.W.Frag} {H : Hp} {a : Addr} {ns : List Int} {g : AL} {E : XK} (hS : SqL K H a (ns.map V.int)) (h : g [.scr ns] [] fun p _ => p = .bl true) : cSp K g [.ref a] H (fun v _ => v = .bl true) E :=
  ⟨⟨H, [], []⟩, [], [.scr ns], _, ⟨[], ⟨Ex.refl H, fun p hp => absurd hp List.not_mem_nil, List.Pairwise.nil⟩, rfl, rfl, fun k o a e => by cases e⟩, .cons (.scr hS) .nil, h, fun W' S v p H' _ _ r e => by subst e; cases r; rfl⟩
def pk {K : PySem.W.Frag} {t : TS} {f : ATS} (h : SS K t f) : {tf : TS × ATS // SS K tf.1 tf.2} := ⟨(t, f), h⟩
/-! ### steps -/
section
variable {A B : Prop} {p : Prop} [Decidable p] {c : Bool}
theorem r_br (h1 : p → A) (h2 : ¬ p → B) : br (decide p) A B := ⟨fun e => h1 (of_decide_eq_true e), fun e => h2 (of_decide_eq_false e)⟩
theorem r_brT (h : A) : br true A B := ⟨fun _ => h, fun e => nomatch e⟩
theorem r_brF (h : B) : br false A B := ⟨(fun e => nomatch e), fun _ => h⟩
theorem r_brN (h : br c B A) : br (!c) A B := by cases c with
  | true => exact r_brF (h.t rfl)
  | false => exact r_brT (h.f rfl)
theorem r_by (hp : p) (h : A) : br (decide p) A B := by rw [decide_eq_true hp]; exact r_brT h
theorem r_bn (hp : ¬ p) (h : B) : br (decide p) A B := by rw [decide_eq_false hp]; exact r_brF h
theorem r_bb (h1 : c = true → A) (h2 : c = false → B) : br c A B := ⟨h1, h2⟩
theorem r_br3 {p q : Prop} [Decidable p] [Decidable q] {A X Y : Prop} (e : br (decide q) X Y → A) (h1 : p → q → X) (hY : ¬ (p ∧ q) → Y) : br (decide p) A Y := by
  by_cases hp : p
  · rw [decide_eq_true hp]
    refine r_brT (e ?_)
    by_cases hq : q
    · rw [decide_eq_true hq]; exact r_brT (h1 hp hq)
    · rw [decide_eq_false hq]; exact r_brF (hY fun z => hq z.2)
  · rw [decide_eq_false hp]; exact r_brF (hY fun z => hp z.1)
theorem r_onL {o : Option (List PV)} {xs : List PV} {P : List PV → Prop} (e : o = some xs) (h : P xs) : onL o P := ⟨xs, e, h⟩
theorem r_onO {α : Type} {o : Option α} {x : α} {P : α → Prop} (e : o = some x) (h : P x) : onO o P := ⟨x, e, h⟩
variable {C : Sto → Prop} {its : List AItem} {g : AG} {b : ATS} {D : AEnds} {ρ : AEnv} {S : Sto}
theorem loop_inv (Iv : Nat → AEnv → Sto → Prop) (h0 : Iv 0 ρ S) (hC : ∀ i ρ S, Iv i ρ S → C S) (hs : ∀ i it ρ S, its[i]? = some it → Iv i ρ S → g it ρ S fun ρ1 S1 => b { nx := Iv (i + 1), ct := Iv (i + 1), bk := D.nx, rt := D.rt } ρ1 S1)
    (hd : ∀ ρ S, Iv its.length ρ S → D.nx ρ S) : aLoop C its g b D ρ S := by
  refine ⟨fun i ρ S => i ≤ its.length ∧ Iv i ρ S, ⟨Nat.zero_le _, h0⟩, fun i ρ S ⟨hi, iv⟩ => ⟨hC i ρ S iv, ?_⟩⟩
  by_cases h : i = its.length
  · subst h
    exact .inl ⟨rfl, hd ρ S iv⟩
  · have hlt : i < its.length := by omega
    have e : its[i]? = some its[i] := List.getElem?_eq_getElem hlt
    have e2 : (fun ρ S => i + 1 ≤ its.length ∧ Iv (i + 1) ρ S) = Iv (i + 1) := by
      funext ρ S
      exact propext ⟨fun z => z.2, fun z => ⟨hlt, z⟩⟩
    refine .inr ⟨_, e, ?_⟩
    show g its[i] ρ S fun ρ1 S1 => b { nx := fun ρ S => i + 1 ≤ its.length ∧ Iv (i + 1) ρ S, ct := fun ρ S => i + 1 ≤ its.length ∧ Iv (i + 1) ρ S, bk := D.nx, rt := D.rt } ρ1 S1
    rw [e2]
    exact hs i _ ρ S e iv
/-- over what stays as it is -/
theorem loop_one {xs : List PV} (Iv : Nat → AEnv → Sto → Prop) (h0 : Iv 0 ρ S) (hs : ∀ i x ρ S, xs[i]? = some x → Iv i ρ S → g (.one x) ρ S fun ρ1 S1 => b { nx := Iv (i + 1), ct := Iv (i + 1), bk := D.nx, rt := D.rt } ρ1 S1)
    (hd : ∀ ρ S, Iv xs.length ρ S → D.nx ρ S) : aLoop cT (xs.map .one) g b D ρ S :=
  loop_inv Iv h0 (fun _ _ _ _ => trivial) (fun i it ρ S e iv => by
    obtain ⟨x, hx, rfl⟩ := one_get e
    exact hs i x ρ S hx iv) fun ρ S iv => hd ρ S (by rw [List.length_map] at iv; exact iv)
theorem loop_rng {lo : Int} {n : Nat} (Iv : Nat → AEnv → Sto → Prop) (h0 : Iv 0 ρ S) (hs : ∀ i ρ S, i < n → Iv i ρ S → g (.one (.int (lo + (i : Nat)))) ρ S fun ρ1 S1 => b { nx := Iv (i + 1), ct := Iv (i + 1), bk := D.nx, rt := D.rt } ρ1 S1)
    (hd : ∀ ρ S, Iv n ρ S → D.nx ρ S) : aLoop cT (rngI lo n) g b D ρ S :=
  loop_inv Iv h0 (fun _ _ _ _ => trivial) (fun i it ρ S e iv => by
    obtain ⟨hi, rfl⟩ := rngI_get e
    exact hs i ρ S hi iv) fun ρ S iv => hd ρ S (by rw [rngI_len] at iv; exact iv)
theorem loop_rng0 {n : Nat} (Iv : Nat → AEnv → Sto → Prop) (h0 : Iv 0 ρ S) (hs : ∀ i ρ S, i < n → Iv i ρ S → g (.one (.int (i : Nat))) ρ S fun ρ1 S1 => b { nx := Iv (i + 1), ct := Iv (i + 1), bk := D.nx, rt := D.rt } ρ1 S1)
    (hd : ∀ ρ S, Iv n ρ S → D.nx ρ S) : aLoop cT (rngI 0 n) g b D ρ S := loop_rng Iv h0 (fun i ρ S hi iv => by rw [Int.zero_add]; exact hs i ρ S hi iv) hd
theorem loop_enum {xs : List PV} (Iv : Nat → AEnv → Sto → Prop) (h0 : Iv 0 ρ S) (hs : ∀ i x ρ S, xs[i]? = some x → Iv i ρ S → g (.many [.int (i : Nat), x]) ρ S fun ρ1 S1 => b { nx := Iv (i + 1), ct := Iv (i + 1), bk := D.nx, rt := D.rt } ρ1 S1)
    (hd : ∀ ρ S, Iv xs.length ρ S → D.nx ρ S) : aLoop cT (enumI 0 xs) g b D ρ S :=
  loop_inv Iv h0 (fun _ _ _ _ => trivial) (fun i it ρ S e iv => by
    obtain ⟨x, hx, rfl⟩ := enumI_get e
    rw [Nat.zero_add]
    exact hs i x ρ S hx iv) fun ρ S iv => hd ρ S (by rw [enumI_len] at iv; exact iv)
theorem loop_zip {xs ys : List PV} (Iv : Nat → AEnv → Sto → Prop) (h0 : Iv 0 ρ S) (hs : ∀ i x y ρ S, xs[i]? = some x → ys[i]? = some y → Iv i ρ S → g (.many [x, y]) ρ S fun ρ1 S1 => b { nx := Iv (i + 1), ct := Iv (i + 1), bk := D.nx, rt := D.rt } ρ1 S1)
    (hd : ∀ ρ S, Iv (min xs.length ys.length) ρ S → D.nx ρ S) : aLoop cT (zipI xs ys) g b D ρ S :=
  loop_inv Iv h0 (fun _ _ _ _ => trivial) (fun i it ρ S e iv => by
    obtain ⟨x, y, hx, hy, rfl⟩ := zipI_get e
    exact hs i x y ρ S hx hy iv) fun ρ S iv => hd ρ S (by rw [zipI_len] at iv; exact iv)
variable {at' : ATT} {ae : ATE} {R : List PV → Sto → Prop}
theorem comp_inv (Iv : Nat → Sto → List PV → Prop) (h0 : Iv 0 S []) (hC : ∀ i S acc, Iv i S acc → C S) (hs : ∀ i it S acc, its[i]? = some it → Iv i S acc → g it ρ S fun ρ2 S2 => at' ρ2 S2 fun b S3 => br b (ae ρ2 S3 fun y S4 => acc.length < sizeLine ∧ Iv (i + 1) S4 (acc ++ [y])) (Iv (i + 1) S3 acc))
    (hd : ∀ S acc, Iv its.length S acc → R acc S) : aComp C its g at' ae ρ S R := by
  refine ⟨fun i S acc => i ≤ its.length ∧ Iv i S acc, ⟨Nat.zero_le _, h0⟩, fun i S acc ⟨hi, iv⟩ => ⟨hC i S acc iv, ?_⟩⟩
  by_cases h : i = its.length
  · subst h
    exact .inl ⟨rfl, hd S acc iv⟩
  · have hlt : i < its.length := by omega
    have e : its[i]? = some its[i] := List.getElem?_eq_getElem hlt
    have e2 : (fun S acc => i + 1 ≤ its.length ∧ Iv (i + 1) S acc) = Iv (i + 1) := by
      funext ρ S
      exact propext ⟨fun z => z.2, fun z => ⟨hlt, z⟩⟩
    refine .inr ⟨_, e, ?_⟩
    show g its[i] ρ S fun ρ2 S2 => at' ρ2 S2 fun b S3 => br b (ae ρ2 S3 fun y S4 => acc.length < sizeLine ∧ (fun S acc => i + 1 ≤ its.length ∧ Iv (i + 1) S acc) S4 (acc ++ [y])) ((fun S acc => i + 1 ≤ its.length ∧ Iv (i + 1) S acc) S3 acc)
    rw [e2]
    exact hs i _ S acc e iv
theorem comp_one {xs : List PV} (Iv : Nat → Sto → List PV → Prop) (h0 : Iv 0 S []) (hs : ∀ i x S acc, xs[i]? = some x → Iv i S acc → g (.one x) ρ S fun ρ2 S2 => at' ρ2 S2 fun b S3 => br b (ae ρ2 S3 fun y S4 => acc.length < sizeLine ∧ Iv (i + 1) S4 (acc ++ [y])) (Iv (i + 1) S3 acc))
    (hd : ∀ S acc, Iv xs.length S acc → R acc S) : aComp cT (xs.map .one) g at' ae ρ S R :=
  comp_inv Iv h0 (fun _ _ _ _ => trivial) (fun i it S acc e iv => by
    obtain ⟨x, hx, rfl⟩ := one_get e
    exact hs i x S acc hx iv) fun S acc iv => hd S acc (by rw [List.length_map] at iv; exact iv)
theorem comp_rng {lo : Int} {n : Nat} (Iv : Nat → Sto → List PV → Prop) (h0 : Iv 0 S []) (hs : ∀ i S acc, i < n → Iv i S acc → g (.one (.int (lo + (i : Nat)))) ρ S fun ρ2 S2 => at' ρ2 S2 fun b S3 => br b (ae ρ2 S3 fun y S4 => acc.length < sizeLine ∧ Iv (i + 1) S4 (acc ++ [y])) (Iv (i + 1) S3 acc))
    (hd : ∀ S acc, Iv n S acc → R acc S) : aComp cT (rngI lo n) g at' ae ρ S R :=
  comp_inv Iv h0 (fun _ _ _ _ => trivial) (fun i it S acc e iv => by
    obtain ⟨hi, rfl⟩ := rngI_get e
    exact hs i S acc hi iv) fun S acc iv => hd S acc (by rw [rngI_len] at iv; exact iv)
theorem comp_rng0 {n : Nat} (Iv : Nat → Sto → List PV → Prop) (h0 : Iv 0 S []) (hs : ∀ i S acc, i < n → Iv i S acc → g (.one (.int (i : Nat))) ρ S fun ρ2 S2 => at' ρ2 S2 fun b S3 => br b (ae ρ2 S3 fun y S4 => acc.length < sizeLine ∧ Iv (i + 1) S4 (acc ++ [y])) (Iv (i + 1) S3 acc))
    (hd : ∀ S acc, Iv n S acc → R acc S) : aComp cT (rngI 0 n) g at' ae ρ S R := comp_rng Iv h0 (fun i S acc hi iv => by rw [Int.zero_add]; exact hs i S acc hi iv) hd
theorem comp_enum {xs : List PV} (Iv : Nat → Sto → List PV → Prop) (h0 : Iv 0 S []) (hs : ∀ i x S acc, xs[i]? = some x → Iv i S acc → g (.many [.int (i : Nat), x]) ρ S fun ρ2 S2 => at' ρ2 S2 fun b S3 => br b (ae ρ2 S3 fun y S4 => acc.length < sizeLine ∧ Iv (i + 1) S4 (acc ++ [y])) (Iv (i + 1) S3 acc))
    (hd : ∀ S acc, Iv xs.length S acc → R acc S) : aComp cT (enumI 0 xs) g at' ae ρ S R :=
  comp_inv Iv h0 (fun _ _ _ _ => trivial) (fun i it S acc e iv => by
    obtain ⟨x, hx, rfl⟩ := enumI_get e
    rw [Nat.zero_add]
    exact hs i x S acc hx iv) fun S acc iv => hd S acc (by rw [enumI_len] at iv; exact iv)
theorem comp_zip {xs ys : List PV} (Iv : Nat → Sto → List PV → Prop) (h0 : Iv 0 S []) (hs : ∀ i x y S acc, xs[i]? = some x → ys[i]? = some y → Iv i S acc → g (.many [x, y]) ρ S fun ρ2 S2 => at' ρ2 S2 fun b S3 => br b (ae ρ2 S3 fun y S4 => acc.length < sizeLine ∧ Iv (i + 1) S4 (acc ++ [y])) (Iv (i + 1) S3 acc))
    (hd : ∀ S acc, Iv (min xs.length ys.length) S acc → R acc S) : aComp cT (zipI xs ys) g at' ae ρ S R :=
  comp_inv Iv h0 (fun _ _ _ _ => trivial) (fun i it S acc e iv => by
    obtain ⟨x, y, hx, hy, rfl⟩ := zipI_get e
    exact hs i x y S acc hx hy iv) fun S acc iv => hd S acc (by rw [zipI_len] at iv; exact iv)
end
end L5

/-! in, not in, index over data; what laws have in common. -/
namespace L5
open PySem PySem.Spec PyProof.Rows L2 L3
/-- t.index(x), t a tuple -/
def rIndexT (K : PySem.W.Frag) : V → List V → Hp → VK → Prop := fun x xs H Q => ∃ (a : Addr) (y : V) (d : PyData) (ds : List PyData) (j : Nat) (z : PyData), x = V.ref a ∧ xs = [y] ∧ Dp K H (V.ref a) (.tuple ds) ∧ Dp K H y d ∧
  SeqAt.shaped (.tuple ds) = true ∧ SeqAt.shaped d = true ∧ ds[j]? = some z ∧ PyData.eqv z d = true ∧ (∀ (m : Nat) (z' : PyData), m < j → ds[m]? = some z' → PyData.eqv z' d = false) ∧ Q (.int (j : Nat)) H
theorem mt_tindexD {X : Cx} (hu : X.A.units + 65 < cLine) : MtR X "tuple.index" (rIndexT X.K) := by
  intro pins s σ H x xs v us Q I rx rxs h
  obtain ⟨a, y, d, ds, j, z, rfl, rfl, hl, hy, sl, sd, hz, hzj, hno, q⟩ := h
  cases rx
  obtain ⟨uy, rfl, ry⟩ := vals1 rxs
  obtain ⟨bs, r1⟩ := Dp.reads I d y uy hy ry
  have hxs : PyData.canLayAll0 ds = true := SeqAt.canLay_of_shaped sl
  have hroom : X.A.units + 1 + min (PyData.depthAll ds) d.depth < cLine := room_in_shaped sd hu
  cases hl with
  | tup hs ha =>
    obtain ⟨its, rv, pl, hlen⟩ := I.tuple hs
    obtain ⟨⟨cls, dd, dt, sls⟩, ho, hc, n, hd⟩ := pl
    simp only at hc hd
    subst hc
    subst hd
    obtain ⟨as, h4⟩ := Dp.readsAll I ds _ its ha rv
    have hn : its.length = ds.length := SeqAt.ReadsAll.length ds its as h4
    have hmap : its.map (SeqAt.readOf s.heap) = ds := SeqAt.readsAll_map ds its as hxs h4
    obtain ⟨hjd, _⟩ := List.getElem?_eq_some_iff.mp hz
    have hj : j < its.toArray.size := by rw [List.size_toArray]; omega
    have get_ : ∀ (m : Nat) (hm : m < its.toArray.size) (z' : PyData), ds[m]? = some z' → SeqAt.readOf s.heap its.toArray[m] = z' := by
      intro m hm z' hz'
      have hml : m < its.length := by simpa using hm
      rw [← hmap, List.getElem?_map, List.getElem?_eq_getElem hml] at hz'
      have e1 : SeqAt.readOf s.heap its[m] = z' := Option.some.inj (show some (SeqAt.readOf s.heap its[m]) = some z' from hz')
      simpa using e1
    refine call_meets PySem.F.slot_tuple_index ⟨_, ho, rfl⟩ PySem.F.entry_tuple_index (PySem.F.args_tuple_index_2 _ _)
      (TI.tuple_indexAt a its.toArray n dd sls uy (fun u => PyData.eqv (SeqAt.readOf s.heap u) d) j hj ?_ ?_) ⟨ho, SeqAt.items_eqAt (vs := its.toArray) (show ReadsAll s.heap its.toArray.toList ds as from h4) r1 hxs (SeqAt.canLay_of_shaped sd) hroom, ?_⟩
    · show PyData.eqv (SeqAt.readOf s.heap its.toArray[j]) d = true
      rw [get_ j hj z hz]
      exact hzj
    · intro m hm hmj
      have hmd : m < ds.length := by omega
      have hz' : ds[m]? = some ds[m] := List.getElem?_eq_getElem hmd
      show PyData.eqv (SeqAt.readOf s.heap its.toArray[m]) d = false
      rw [get_ m hm _ hz']
      exact hno m _ hmj hz'
    · exact ⟨.int (j : Nat), H, I.tok _, ⟨_, rfl⟩, q⟩
theorem room_u {X : Cx} {k : Nat} (hr : Room k X.A) : X.A.units + 65 < cLine := by have := hr.un; omega
section
variable {K : PySem.W.Frag} {W : Wd} {S : Sto} {H : Hp} {P : AV} {Q : VK}
/-- the first place of an equal one -/
def FirstAt (xs : List PV) (y : PV) (j : Nat) : Prop := (∃ z, xs[j]? = some z ∧ PyData.eqv (dat z) (dat y) = true) ∧ ∀ (m : Nat) (z : PV), m < j → xs[m]? = some z → PyData.eqv (dat z) (dat y) = false
def indexOf (xs : List PV) (y : PV) (P : Nat → Prop) : Prop := ∃ j, FirstAt xs y j ∧ P j
@[reducible] def vIndexT : AM := fun x ys S P => on1 ys fun y => onT x fun xs => eqOk (.tup xs) ∧ eqOk y ∧ indexOf xs y fun j => P (.int (j : Nat)) S
@[reducible] def vIndexL : AM := fun x ys S P => on1 ys fun y => onL (lv x S) fun xs => eqOk (.lst xs) ∧ eqOk y ∧ indexOf xs y fun j => P (.int (j : Nat)) S
theorem first_dats {xs : List PV} {y : PV} {j : Nat} (h : FirstAt xs y j) : (∃ z, (dats xs)[j]? = some z ∧ PyData.eqv z (dat y) = true) ∧ ∀ (m : Nat) (z' : PyData), m < j → (dats xs)[m]? = some z' → PyData.eqv z' (dat y) = false := by
  obtain ⟨⟨z, h1, h2⟩, h3⟩ := h
  rw [dats_map]
  refine ⟨⟨dat z, by rw [List.getElem?_map, h1]; rfl, h2⟩, fun m z' hm e => ?_⟩
  obtain ⟨x, hx, rfl⟩ := map_at e
  exact h3 m x hm hx
theorem sm_indexT : SM K (rIndexT K) vIndexT := ⟨fun {W S x p xs ps H Q P} I r rs h c => by
  obtain ⟨v, q, rfl, rfl, r2, h1⟩ := rs.on1 h
  obtain ⟨ys, rfl, ⟨e1, e2⟩, ⟨e3, e4⟩, j, hj, h2⟩ := r.onT h1
  obtain ⟨⟨z, z1, z2⟩, z3⟩ := first_dats hj
  have d1 := Dp.up I.exH (r.dp e1)
  have d2 := Dp.up I.exH (r2.dp e3)
  rw [dat] at d1 e2
  cases r with
  | tup hf hs => exact ⟨_, v, _, _, j, z, rfl, rfl, d1, d2, e2, e4, z1, z2, z3, c.at I (.int _) h2⟩⟩
theorem sm_indexL : SM K (rIndexD K) vIndexL := ⟨fun {W S x p xs ps H Q P} I r rs h c => by
  obtain ⟨v, q, rfl, rfl, r2, h1⟩ := rs.on1 h
  obtain ⟨ys, e, ⟨e1, e2⟩, ⟨e3, e4⟩, j, hj, h2⟩ := onL_of h1
  obtain ⟨⟨z, z1, z2⟩, z3⟩ := first_dats hj
  obtain ⟨a, us, rfl, hq, r3⟩ := r.lv I e
  rw [nown] at e1
  rw [dat] at e2
  exact ⟨a, v, _, _, j, z, rfl, rfl, .lst hq (DpAll.up I.exH (r3.dp e1)), Dp.up I.exH (r2.dp e3), e2, e4, z1, z2, z3, c.at I (.int _) h2⟩⟩
@[reducible] def vIn : A2 := fun x y S P => onL (lv y S) fun xs => eqOk (.lst xs) ∧ eqOk x ∧ P (.bl (xs.any fun z => PyData.eqv (dat z) (dat x))) S
@[reducible] def vNotIn : A2 := fun x y S P => onL (lv y S) fun xs => eqOk (.lst xs) ∧ eqOk x ∧ P (.bl (!xs.any fun z => PyData.eqv (dat z) (dat x))) S
theorem any_dats (xs : List PV) (d : PyData) : (dats xs).any (fun z => PyData.eqv z d) = xs.any fun z => PyData.eqv (dat z) d := by
  rw [dats_map, List.any_map]
  rfl
theorem so_in : SO K (rInA K) vIn := ⟨fun {W S x y p q H Q P} I r1 r2 h c => by
  obtain ⟨xs, e, ⟨e1, e2⟩, ⟨e3, e4⟩, h⟩ := onL_of h
  obtain ⟨a, us, rfl, hq, r3⟩ := r2.lv I e
  rw [nown] at e1
  rw [dat] at e2
  exact .inr ⟨_, _, Dp.up I.exH (r1.dp e3), .lst hq (DpAll.up I.exH (r3.dp e1)), e4, e2, by rw [any_dats]; exact c.at I (.bl _) h⟩⟩
theorem so_notIn : SO K (rNotInA K) vNotIn := ⟨fun {W S x y p q H Q P} I r1 r2 h c => by
  obtain ⟨xs, e, ⟨e1, e2⟩, ⟨e3, e4⟩, h⟩ := onL_of h
  obtain ⟨a, us, rfl, hq, r3⟩ := r2.lv I e
  rw [nown] at e1
  rw [dat] at e2
  exact .inr ⟨_, _, Dp.up I.exH (r1.dp e3), .lst hq (DpAll.up I.exH (r3.dp e1)), e4, e2, by rw [any_dats]; exact c.at I (.bl _) h⟩⟩
end
/-! own lists within data -/
mutual
inductive Rsv (S : Sto) : PV → PV → Prop where
  | refl (x : PV) : Rsv S x x
  | own {k : Nat} {xs ys : List PV} : sget S k = some xs → Rsvs S xs ys → Rsv S (.own k) (.lst ys)
  | tup {xs ys : List PV} : Rsvs S xs ys → Rsv S (.tup xs) (.tup ys)
  | lst {xs ys : List PV} : Rsvs S xs ys → Rsv S (.lst xs) (.lst ys)
inductive Rsvs (S : Sto) : List PV → List PV → Prop where
  | refl (xs : List PV) : Rsvs S xs xs
  | cons {x y : PV} {xs ys : List PV} : Rsv S x y → Rsvs S xs ys → Rsvs S (x :: xs) (y :: ys)
end
section
variable {K : PySem.W.Frag} {W : Wd} {S : Sto} {H : Hp}
mutual
theorem Rsv.dp (I : In K W S H) : ∀ {v : V} {x y : PV}, VR K W.I W.ad v x → Rsv S x y → nown y = true → Dp K H v (dat y)
  | _, _, _, r, .refl _, e => Dp.up I.exH (r.dp e)
  | _, _, _, r, .own h hs, e => by
    obtain ⟨a, us, h1, h2, h3⟩ := r.lv I (xs := _) h
    subst h1
    rw [nown] at e
    rw [dat]
    exact .lst h2 (Rsvs.dp I h3 hs e)
  | _, _, _, r, .tup hs, e => by
    obtain ⟨a, us, h1, h2, h3⟩ := r.tupS I
    subst h1
    rw [nown] at e
    rw [dat]
    exact .tup h2 (Rsvs.dp I h3 hs e)
  | _, _, _, r, .lst hs, e => by
    obtain ⟨a, us, h1, h2, h3⟩ := r.lv I rfl
    subst h1
    rw [nown] at e
    rw [dat]
    exact .lst h2 (Rsvs.dp I h3 hs e)
theorem Rsvs.dp (I : In K W S H) : ∀ {vs : List V} {xs ys : List PV}, VRs K W.I W.ad vs xs → Rsvs S xs ys → nowns ys = true → DpAll K H vs (dats ys)
  | _, _, _, r, .refl _, e => DpAll.up I.exH (r.dp e)
  | _, _, _, .cons r rs, .cons h hs, e => by
    rw [nowns, Bool.and_eq_true] at e
    exact .cons (Rsv.dp I r h e.1) (Rsvs.dp I rs hs e.2)
end
/-- x as data -/
def rsvTo (x : PV) (S : Sto) (P : PV → Prop) : Prop := ∃ y, Rsv S x y ∧ rpOk y ∧ P y
@[reducible] def vReprD : AL := fun xs S P => on1 xs fun x => rsvTo x S fun y => P (.str (PyData.shown (dat y))) S
theorem sl_reprD : SL K (rRepr K) vReprD := ⟨fun {W S xs ps H Q P} I r h c => by
  obtain ⟨v, p, rfl, rfl, r, y, hr, ⟨⟨h1, k, h2, h3⟩, h4⟩, h⟩ := r.on1 h
  exact ⟨v, _, rfl, hr.dp I r h1, good_show k _ h3, Nat.le_trans (good_depth k _ h3) h2, Nat.le_trans (Nat.le_trans (good_nz k _ h3) h4) (by decide), c.at I (.str _) h⟩⟩
theorem r_rsv {x : PV} {P : PV → Prop} (h : rpOk x) (k : P x) : rsvTo x S P := ⟨x, .refl x, h, k⟩
end
/-! what may be compared, however great its numbers -/
structure Lay (k : Nat) (p : PV) : Prop where
  own : nown p = true
  lay : (dat p).canLay0 = true
  dep : (dat p).depth ≤ k
theorem Lay.ok {k : Nat} {p : PV} (h : Lay k p) (hk : k ≤ 64) : eqOk p := ⟨h.own, by
  unfold SeqAt.shaped
  rw [h.lay, decide_eq_true (Nat.le_trans h.dep hk)]
  rfl⟩
theorem Lay.int {k : Nat} {i : Int} : Lay k (.int i) := ⟨rfl, by simp only [dat, PyData.canLay0], by simp only [dat, PyData.depth]; omega⟩
theorem Lay.non {k : Nat} : Lay k .non := ⟨rfl, by simp only [dat, PyData.canLay0], by simp only [dat, PyData.depth]; omega⟩
theorem Lay.bl {k : Nat} {b : Bool} : Lay k (.bl b) := ⟨rfl, by simp only [dat, PyData.canLay0], by simp only [dat, PyData.depth]; omega⟩
theorem Lay.all {k : Nat} : ∀ {xs : List PV}, (∀ x ∈ xs, Lay k x) → nowns xs = true ∧ PyData.canLayAll0 (dats xs) = true ∧ PyData.depthAll (dats xs) ≤ k
  | [], _ => ⟨rfl, by simp only [dats, PyData.canLayAll0], by simp only [dats, PyData.depthAll]; omega⟩
  | x :: xs, h => by
    obtain ⟨h1, h2, h3⟩ := Lay.all (xs := xs) fun y hy => h y (List.mem_cons_of_mem _ hy)
    have hx := h x List.mem_cons_self
    refine ⟨by rw [nowns, hx.own, h1]; rfl, by simp only [dats, PyData.canLayAll0, hx.lay, h2, Bool.and_self], ?_⟩
    have := hx.dep
    simp only [dats, PyData.depthAll]
    omega
theorem Lay.tup {k : Nat} {xs : List PV} (h : ∀ x ∈ xs, Lay k x) : Lay (k + 1) (.tup xs) := by
  obtain ⟨h1, h2, h3⟩ := Lay.all h
  exact ⟨by rw [nown, h1], by simp only [dat, PyData.canLay0, h2], by simp only [dat, PyData.depth]; omega⟩
theorem Lay.lst {k : Nat} {xs : List PV} (h : ∀ x ∈ xs, Lay k x) : Lay (k + 1) (.lst xs) := by
  obtain ⟨h1, h2, h3⟩ := Lay.all h
  exact ⟨by rw [nown, h1], by simp only [dat, PyData.canLay0, h2], by simp only [dat, PyData.depth]; omega⟩
theorem Lay.ints {k : Nat} {ns : List Int} : ∀ x ∈ ns.map PV.int, Lay k x := fun x hx => by
  obtain ⟨n, _, rfl⟩ := List.mem_map.mp hx
  exact .int
/-- the first of what equals, where one does -/
theorem first_ex {y : PV} : ∀ {xs : List PV}, (∃ z ∈ xs, PyData.eqv (dat z) (dat y) = true) → ∃ j, FirstAt xs y j ∧ j < xs.length
  | [], h => by obtain ⟨z, hz, _⟩ := h; cases hz
  | x :: xs, h => by
    by_cases hx : PyData.eqv (dat x) (dat y) = true
    · exact ⟨0, ⟨⟨x, rfl, hx⟩, fun m z hm => absurd hm (Nat.not_lt_zero m)⟩, Nat.zero_lt_succ _⟩
    · obtain ⟨z, hz, he⟩ := h
      have hz : z ∈ xs := by
        rcases List.mem_cons.mp hz with rfl | hz
        · exact absurd he hx
        · exact hz
      obtain ⟨j, ⟨⟨w, hw, hw2⟩, hno⟩, hj⟩ := first_ex ⟨z, hz, he⟩
      refine ⟨j + 1, ⟨⟨w, hw, hw2⟩, fun m z hm e => ?_⟩, by rw [List.length_cons]; omega⟩
      cases m with
      | zero => cases e; simpa using hx
      | succ m => exact hno m z (by omega) e
/-! ### what laws have in common -/
abbrev iL (ns : List Int) : List PV := ns.map PV.int
theorem iL_snoc (a : List Int) (x : Int) : iL a ++ [.int x] = iL (a ++ [x]) := by simp
theorem zipW_get {f : Int → Int → Int} {xs ys : List Int} {i : Nat} {x y : Int} (h1 : xs[i]? = some x) (h2 : ys[i]? = some y) : (xs.zipWith f ys)[i]? = some (f x y) := by
  rw [List.getElem?_zipWith, h1, h2]
theorem take_one {xs : List Int} {i : Nat} {x : Int} (h : xs[i]? = some x) : xs.take (i + 1) = xs.take i ++ [x] := by
  rw [List.take_succ, h]
  rfl
theorem sget_new (S : Sto) (xs : List PV) : sget (S ++ [.lst xs]) S.length = some xs := by
  induction S with
  | nil => rfl
  | cons o S ih => exact ih
theorem sput_new (S : Sto) (xs ys : List PV) : sput (S ++ [.lst xs]) S.length ys = S ++ [.lst ys] := by
  rw [sput_eq]
  simp
theorem at_zero {α : Type} (x : α) (xs : List α) : atI (x :: xs) 0 = some x := by
  unfold atI ixN
  rw [if_pos (Int.le_refl 0), if_pos (by rw [List.length_cons]; omega)]
  rfl
theorem at_zeroI (t : Int) (L : List Int) : atI (iL (t :: L)) 0 = some (.int t) := by
  show atI (PV.int t :: iL L) 0 = _
  exact at_zero _ _
structure Dk where
  cells : List Int
  m : Int
  k : Int
def Dk.Ok (n : Int) (D : Dk) : Prop := 0 ≤ D.m ∧ D.m < 4294967296 ∧ 0 ≤ D.k ∧ D.k ≤ n ∧ D.cells.length ≤ 64
theorem Dk.Ok.up {n n' : Int} {D : Dk} (h : D.Ok n) (l : n ≤ n') : D.Ok n' := by unfold Dk.Ok at h ⊢; omega
@[reducible] def dk3 (cells : List Int) (m k : Int) (G : Sto) : Sto := .lst (iL cells) :: .lst [.own 0, .int m, .int k] :: G
@[reducible] def dk (D : Dk) (G : Sto) : Sto := dk3 D.cells D.m D.k G
def asp_deck : AL := fun vs S P => ∃ ns : List Int, vs = [.scr ns] ∧ S = [] ∧ ns.length ≤ 63 ∧ ∀ D : Dk, D.Ok 0 → P (.own 1) (dk D [])
def asp_draw : AL := fun vs S P => ∃ (D : Dk) (G : Sto) (n m : Int), vs = [.own 1, .int m] ∧ S = dk D G ∧ D.Ok n ∧ n ≤ 1000000000 ∧ 1 ≤ m ∧ m ≤ 1000000000 ∧ ∀ r D', 0 ≤ r → r < m → D'.Ok (n + 1) → P (.int r) (dk D' G)
def asp_pick : AL := fun vs S P => ∃ (D : Dk) (G : Sto) (n : Int) (s : PV) (xs : List PV), vs = [.own 1, s] ∧ S = dk D G ∧ D.Ok n ∧ n ≤ 1000000000 ∧ 0 < xs.length ∧ xs.length ≤ 1000 ∧ (∀ D', sq s (dk D' G) = some xs) ∧ ∀ v D', v ∈ xs → D'.Ok (n + 1) → P v (dk D' G)
def asp_order : AL := fun vs S P => ∃ (D : Dk) (G : Sto) (n st most : Int), vs = [.own 1, .int st, .int most] ∧ S = dk D G ∧ D.Ok n ∧ n ≤ 900000000 ∧ 1 ≤ st ∧ st ≤ 100 ∧ 0 ≤ most ∧ most ≤ 100 ∧
  ∀ (order : List Int) D', D'.Ok (n + 200) → (∀ x ∈ order, 0 ≤ x ∧ x < st) → order.length ≤ most → P (.tup (iL order)) (dk D' G)
theorem last_of {α : Type} : ∀ {l : List α}, l ≠ [] → ∃ (init : List α) (z : α), l = init ++ [z]
  | [], h => absurd rfl h
  | [z], _ => ⟨[], z, rfl⟩
  | x :: y :: l, _ => by
    obtain ⟨init, z, e⟩ := last_of (l := y :: l) (by simp)
    exact ⟨x :: init, z, by rw [e]; rfl⟩
theorem cut_iL (ns : List Int) (lo hi : Option Int) : ∃ ms : List Int, cutP (iL ns) lo hi = iL ms ∧ ms.length ≤ ns.length := by
  refine ⟨(ns.drop (HT.sIx (iL ns).length 0 lo)).take (HT.sIx (iL ns).length (iL ns).length hi - HT.sIx (iL ns).length 0 lo), ?_, ?_⟩
  · unfold cutP iL
    rw [List.map_take, List.map_drop]
  · rw [List.length_take, List.length_drop]
    omega
theorem flat_one (n : Nat) (x : Int) : (List.replicate n [PV.int x]).flatten = iL (List.replicate n x) := by
  induction n with
  | zero => rfl
  | succ n ih => rw [List.replicate_succ, List.flatten_cons, ih, List.replicate_succ]; rfl
theorem sget_dk (D : Dk) (G : Sto) (xs : List PV) : sget (dk D (G ++ [.lst xs])) (G.length + 2) = some xs := sget_new G xs
theorem sput_dk (D : Dk) (G : Sto) (xs ys : List PV) : sput (dk D (G ++ [.lst xs])) (G.length + 2) ys = dk D (G ++ [.lst ys]) := by
  show AO.lst _ :: AO.lst _ :: sput (G ++ [.lst xs]) G.length ys = _
  rw [sput_new]
structure Rp (k z : Nat) (p : PV) : Prop where
  own : nown p = true
  gd : good k (dat p)
  nz : nz (dat p) ≤ z
theorem Rp.ok {k z : Nat} {p : PV} (h : Rp k z p) (hk : k ≤ 60) (hz : z ≤ 16000000) : rpOk p := ⟨⟨h.own, k, hk, h.gd⟩, Nat.le_trans h.nz hz⟩
theorem Rp.up {k z z' : Nat} {p : PV} (h : Rp k z p) (hz : z ≤ z') : Rp k z' p := ⟨h.own, h.gd, Nat.le_trans h.nz hz⟩
theorem Rp.int {k z : Nat} {i : Int} (h1 : -1000000000000000000000000 < i) (h2 : i < 1000000000000000000000000) (hz : 1921 ≤ z) : Rp k z (.int i) := ⟨rfl, good_int h1 h2, hz⟩
theorem Rp.non {k z : Nat} (hz : 4 ≤ z) : Rp k z .non := ⟨rfl, by cases k <;> trivial, hz⟩
theorem Rp.all {k z : Nat} : ∀ {xs : List PV}, (∀ x ∈ xs, Rp k z x) → nowns xs = true ∧ (∀ x ∈ dats xs, good k x) ∧ nzAll (dats xs) ≤ xs.length * (z + 2)
  | [], _ => ⟨rfl, (fun x h => by cases h), Nat.zero_le _⟩
  | x :: xs, h => by
    obtain ⟨h1, h2, h3⟩ := Rp.all (xs := xs) fun y hy => h y (List.mem_cons_of_mem _ hy)
    have hx := h x List.mem_cons_self
    refine ⟨by rw [nowns, hx.own, h1]; rfl, fun y hy => ?_, ?_⟩
    · rw [dats] at hy
      rcases List.mem_cons.mp hy with rfl | hy
      · exact hx.gd
      · exact h2 y hy
    · have e : (x :: xs).length * (z + 2) = xs.length * (z + 2) + (z + 2) := by rw [List.length_cons, Nat.succ_mul]
      have := hx.nz
      rw [dats, nzAll]
      omega
theorem Rp.tup {k z n : Nat} {xs : List PV} (h : ∀ x ∈ xs, Rp k z x) (hn : xs.length ≤ n) : Rp (k + 1) (3 + n * (z + 2)) (.tup xs) := by
  obtain ⟨h1, h2, h3⟩ := Rp.all h
  refine ⟨by rw [nown, h1], h2, ?_⟩
  have := Nat.mul_le_mul_right (z + 2) hn
  rw [dat, L3.nz]
  omega
theorem Rp.lst {k z n : Nat} {xs : List PV} (h : ∀ x ∈ xs, Rp k z x) (hn : xs.length ≤ n) : Rp (k + 1) (3 + n * (z + 2)) (.lst xs) := by
  obtain ⟨h1, h2, h3⟩ := Rp.all h
  refine ⟨by rw [nown, h1], h2, ?_⟩
  have := Nat.mul_le_mul_right (z + 2) hn
  rw [dat, L3.nz]
  omega
theorem Rp.nil {k z : Nat} : ∀ x ∈ ([] : List PV), Rp k z x := fun x h => by cases h
theorem Rp.cons {k z : Nat} {p : PV} {xs : List PV} (h : Rp k z p) (hs : ∀ x ∈ xs, Rp k z x) : ∀ x ∈ p :: xs, Rp k z x := fun x hx => by
  rcases List.mem_cons.mp hx with rfl | hx
  · exact h
  · exact hs x hx
theorem Rp.ofI {k z : Nat} {ns : List Int} (h : ∀ n ∈ ns, -1000000000000000000000000 < n ∧ n < 1000000000000000000000000) (hz : 1921 ≤ z) : ∀ x ∈ iL ns, Rp k z x := fun x hx => by
  obtain ⟨n, hn, rfl⟩ := List.mem_map.mp hx
  exact Rp.int (h n hn).1 (h n hn).2 hz
theorem cut_take (xs : List PV) {a : Int} (h0 : 0 ≤ a) : cutP xs none (some a) = xs.take a.toNat := by
  have e : a = ((a.toNat : Nat) : Int) := by omega
  unfold cutP
  rw [HT.sIx_none, Nat.sub_zero, List.drop_zero]
  conv => lhs; rw [e, HT.sIx_nat]
  rw [List.take_eq_take_iff]
  simp
theorem flat_ref (n : Nat) (x : PV) : (List.replicate n [x]).flatten = List.replicate n x := by
  induction n with
  | zero => rfl
  | succ n ih => rw [List.replicate_succ, List.flatten_cons, ih, List.replicate_succ]; rfl
theorem cut_init (xs : List PV) : cutP xs none (some (-1)) = xs.dropLast := by
  unfold cutP
  rw [HT.sIx_none, Nat.sub_zero, List.drop_zero, List.dropLast_eq_take]
  congr 1
  show (if (-1 : Int) < 0 then ((-1 : Int) + (xs.length : Int)).toNat else min (-1 : Int).toNat xs.length) = _
  rw [if_pos (by decide)]
  omega
theorem cut_from (xs : List PV) {a : Int} (h0 : 0 ≤ a) : cutP xs (some a) none = xs.drop a.toNat := by
  have e : a = ((a.toNat : Nat) : Int) := by omega
  unfold cutP
  rw [HT.sIx_none]
  conv => lhs; rw [e, HT.sIx_nat]
  by_cases h : a.toNat ≤ xs.length
  · rw [Nat.min_eq_left h, List.take_of_length_le (by rw [List.length_drop]; omega)]
  · rw [Nat.min_eq_right (by omega), Nat.sub_self, List.take_zero, List.drop_eq_nil_of_le (by omega)]
theorem take_oneG {α : Type} {xs : List α} {i : Nat} {x : α} (h : xs[i]? = some x) : xs.take (i + 1) = xs.take i ++ [x] := by
  rw [List.take_succ, h]
  rfl
theorem at_last {α : Type} (xs : List α) (x : α) : atI (xs ++ [x]) (-1) = some x := by
  unfold atI ixN
  rw [if_neg (by decide), if_pos (by rw [List.length_append, List.length_singleton]; omega)]
  show (xs ++ [x])[(-1 + ((xs ++ [x]).length : Int)).toNat]? = some x
  rw [show (-1 + ((xs ++ [x]).length : Int)).toNat = xs.length by rw [List.length_append, List.length_singleton]; omega]
  simp
/-- = of lists of ints -/
theorem eqv_ints : ∀ (ns ms : List Int), PyData.eqvAll (ns.map .int) (ms.map .int) = decide (ns = ms)
  | [], [] => by simp [PyData.eqvAll]
  | [], m :: ms => by simp [PyData.eqvAll]
  | n :: ns, [] => by simp [PyData.eqvAll]
  | n :: ns, m :: ms => by
    simp only [List.map_cons, PyData.eqvAll, PyData.eqv, eqv_ints ns ms]
    by_cases h1 : n = m <;> by_cases h2 : ns = ms <;> simp [h1, h2]
theorem eqv_iT (ns ms : List Int) : PyData.eqv (dat (.tup (iL ns))) (dat (.tup (iL ms))) = decide (ns = ms) := by
  rw [dat, dat, dats_ints, dats_ints, PyData.eqv, eqv_ints]
end L5

/-! readings over trees: instances. -/
namespace L5
open PySem PySem.Spec PyProof.Rows L2 L3
/-! ### attributes as lists -/
theorem lookup_at {f : Str} {v : V} : ∀ {fs : List (Str × V)} {i : Nat}, (fs.map Prod.fst).Nodup → fs[i]? = some (f, v) → fs.lookup f = some v
  | [], _, _, h => by cases h
  | (g, w) :: fs, 0, _, h => by
    cases h
    simp [List.lookup]
  | (g, w) :: fs, i + 1, nd, h => by
    rw [List.map_cons, List.nodup_cons] at nd
    have ne : f ≠ g := fun e => nd.1 (by subst e; exact List.mem_map.mpr ⟨_, List.mem_of_getElem? h, rfl⟩)
    have hb : (f == g) = false := beq_eq_false_iff_ne.mpr ne
    simp only [List.lookup, hb]
    exact lookup_at nd.2 h
theorem lookup_none {f : Str} : ∀ {fs : List (Str × V)}, f ∉ fs.map Prod.fst → fs.lookup f = none
  | [], _ => rfl
  | (g, w) :: fs, h => by
    rw [List.map_cons, List.mem_cons, not_or] at h
    have hb : (f == g) = false := beq_eq_false_iff_ne.mpr h.1
    simp only [List.lookup, hb]
    exact lookup_none h.2
/-- one attribute is stored: the i-th, or the next one -/
@[reducible] def stF : List PV → Nat → PV → Option (List PV)
  | [], 0, p => some [p]
  | [], _ + 1, _ => none
  | _ :: r, 0, p => some (p :: r)
  | x :: r, n + 1, p => match stF r n p with
    | some l => some (x :: l)
    | none => none
section
variable {K : PySem.W.Frag} {W W' : Wd} {S : Sto} {H : Hp} {P : AV} {Q : VK} {I : Hp} {ad : List Addr}
theorem putF_st {f : Str} {y : V} {p : PV} (r : VR K I ad y p) : ∀ {N : List Str} {fs : List (Str × V)} {xs ys : List PV} {i : Nat}, N.Nodup → N[i]? = some f → xs.length ≤ N.length → fs.map Prod.fst = N.take xs.length → VRs K I ad (fs.map Prod.snd) xs → stF xs i p = some ys →
    (putF f y fs).map Prod.fst = N.take ys.length ∧ VRs K I ad ((putF f y fs).map Prod.snd) ys ∧ ys.length ≤ N.length
  | [], _, _, _, _, _, h, _, _, _, _ => by cases h
  | n :: N, fs, [], ys, i, nd, hi, hl, e, rs, hs => by
    cases fs with
    | cons a b => cases rs
    | nil =>
      cases i with
      | succ i => cases hs
      | zero =>
        cases hs
        cases hi
        exact ⟨rfl, .cons r .nil, Nat.succ_le_succ (Nat.zero_le _)⟩
  | n :: N, fs, x :: xs, ys, i, nd, hi, hl, e, rs, hs => by
    cases fs with
    | nil => cases rs
    | cons a fs =>
      obtain ⟨g, w⟩ := a
      rw [List.map_cons, List.length_cons, List.take_succ_cons] at e
      have e3 := (List.cons.inj e).2
      have e4 : g = n := (List.cons.inj e).1
      subst e4
      clear e
      cases rs with
      | cons rw' rs =>
        cases i with
        | zero =>
          cases hi
          cases hs
          have e2 : putF f y ((f, w) :: fs) = (f, y) :: fs := by unfold putF; rw [if_pos rfl]
          rw [e2]
          refine ⟨?_, .cons r rs, hl⟩
          rw [List.map_cons, List.length_cons, List.take_succ_cons, e3]
        | succ i =>
          have hi' : N[i]? = some f := hi
          rw [List.nodup_cons] at nd
          have ne : ¬ g = f := fun z => nd.1 (by rw [z]; exact List.mem_of_getElem? hi')
          unfold stF at hs
          cases z : stF xs i p with
          | none => rw [z] at hs; cases hs
          | some zs =>
            rw [z] at hs
            cases hs
            obtain ⟨h1, h2, h3⟩ := putF_st r nd.2 hi' (Nat.le_of_succ_le_succ hl) e3 rs z
            have e5 : putF f y ((g, w) :: fs) = (g, w) :: putF f y fs := by
              show (if g = f then (g, y) :: fs else (g, w) :: putF f y fs) = _
              rw [if_neg ne]
            rw [e5]
            refine ⟨?_, .cons rw' h2, Nat.succ_le_succ h3⟩
            show g :: _ = List.take (zs.length + 1) (g :: N)
            rw [List.take_succ_cons, h1]
/-! ### instances -/
@[reducible] def insOf (p : PV) (S : Sto) : Option (Addr × List Str × List PV) := match p with
  | .ins C N xs => some (C, N, xs)
  | .own k => sgetI S k
  | _ => none
def onIns (p : PV) (S : Sto) (P : Addr → List Str → List PV → Prop) : Prop := ∃ C N xs, insOf p S = some (C, N, xs) ∧ P C N xs
theorem VR.ins_at (I : In K W S H) {v : V} {p : PV} (r : VR K W.I W.ad v p) {C : Addr} {N : List Str} {xs : List PV} (e : insOf p S = some (C, N, xs)) :
    ∃ a dx fs, v = .ref a ∧ H a = some (.ins C dx fs) ∧ ClsF K C N ∧ xs.length ≤ N.length ∧ fs.map Prod.fst = N.take xs.length ∧ VRs K W.I W.ad (fs.map Prod.snd) xs := by
  cases p with
  | ins C' N' ys =>
    cases e
    exact (match r with
      | .ins h c z e hs => ⟨_, _, _, rfl, I.exH _ _ h, c, z, e, hs⟩)
  | own k =>
    obtain ⟨a, dx, fs, h1, h2, h3, h4, h5, h6, _⟩ := I.atI r (sgetI_eq e)
    exact ⟨a, dx, fs, h1, h2, h3, h4, h5, h6⟩
  | _ => cases e
theorem fld_at {N : List Str} {fs : List (Str × V)} {xs : List PV} {i : Nat} {f : Str} {p : PV} (nd : N.Nodup) (e : fs.map Prod.fst = N.take xs.length) (rs : VRs K I ad (fs.map Prod.snd) xs) (hi : N[i]? = some f) (hx : xs[i]? = some p) : ∃ v, fs.lookup f = some v ∧ VR K I ad v p := by
  obtain ⟨v, hv, r⟩ := rs.get hx
  refine ⟨v, lookup_at (i := i) ?_ ?_, r⟩
  · rw [e]; exact nd.sublist (List.take_sublist _ _)
  · rw [List.getElem?_map] at hv
    have h1 : (fs.map Prod.fst)[i]? = some f := by
      rw [e, List.getElem?_take_of_lt (List.getElem?_eq_some_iff.mp hx).1]; exact hi
    rw [List.getElem?_map] at h1
    cases z : fs[i]? with
    | none => rw [z] at hv; cases hv
    | some q =>
      rw [z] at hv h1
      obtain ⟨q1, q2⟩ := q
      cases hv
      cases h1
      rfl
theorem no_at {N : List Str} {fs : List (Str × V)} {n : Nat} {m : Str} (e : fs.map Prod.fst = N.take n) (h : m ∉ N) : fs.lookup m = none :=
  lookup_none (by rw [e]; exact fun z => h (List.mem_of_mem_take z))
variable {ta te : TE} {fa fe : ATE} {t tk : TA} {f fk : ATA}
/-- o.f -/
@[reducible] def aFld (g : Str) (i : Nat) (a : ATE) : ATE := fun ρ S P => a ρ S fun x S1 => onIns x S1 fun _ N xs => N[i]? = some g ∧ onO xs[i]? fun v => P v S1
theorem se_fld {g : Str} {i : Nat} (ha : SE K ta fa) : SE K (tFld K ta g) (aFld g i fa) := ⟨fun I E h c =>
  ha.run I E h fun W1 S1 x p H1 l1 I1 r1 ⟨C, N, xs, e, hN, v, hx, h1⟩ => by
    obtain ⟨a, dx, fs, rfl, h2, h3, h4, h5, h6⟩ := r1.ins_at I1 e
    obtain ⟨u, hu, ru⟩ := fld_at h3.nd h5 h6 hN hx
    exact ⟨a, C, dx, fs, u, rfl, h2, h3.cl, h3.no _ (List.mem_of_getElem? hN), hu, c _ _ _ _ _ l1 I1 ru h1⟩⟩
/-- o.f = v -/
def onStF (x : PV) (S : Sto) (g : Str) (i : Nat) (y : PV) (P : Nat → Addr → List Str → List PV → Prop) : Prop := ∃ k C N xs ys, x = .own k ∧ sgetI S k = some (C, N, xs) ∧ N[i]? = some g ∧ stF xs i y = some ys ∧ P k C N ys
theorem r_stF {x : PV} {S : Sto} {g : Str} {i k : Nat} {y : PV} {C : Addr} {N : List Str} {xs ys : List PV} {P : Nat → Addr → List Str → List PV → Prop} (e : x = .own k) (h1 : sgetI S k = some (C, N, xs)) (h2 : N[i]? = some g) (h3 : stF xs i y = some ys) (h : P k C N ys) : onStF x S g i y P := ⟨k, C, N, xs, ys, e, h1, h2, h3, h⟩
@[reducible] def aFldS (g : Str) (i : Nat) (o v : ATE) : ATS := fun D ρ S => v ρ S fun y S1 => o ρ S1 fun x S2 => onStF x S2 g i y fun k C N ys => D.nx ρ (spo S2 k (.ins C N ys))
theorem ss_fld {g : Str} {i : Nat} (ho : SE K ta fa) (hv : SE K te fe) : SS K (sFld K ta te g) (aFldS g i fa fe) := ⟨fun I E h c =>
  hv.run I E h fun W1 S1 y q H1 l1 I1 r1 h1 => ho.run I1 (E.up l1.toLo) h1 fun W2 S2 x p H2 l2 I2 r2 ⟨k, C, N, xs, ys, ep, hk, hN, hs, h2⟩ => by
    subst ep
    obtain ⟨a, dx, fs, rfl, h3, h4, h5, h6, h7, up⟩ := I2.atI r2 (sgetI_eq hk)
    obtain ⟨k1, k2, k3⟩ := putF_st (r1.up l2.toLo) h4.nd hN h5 h6 h7 hs
    have hl : fs.length < 1000 := by
      have e := congrArg List.length h6
      rw [List.length_map, List.length_take] at e
      have := h4.few
      omega
    refine ⟨a, C, dx, fs, rfl, h3, h4.cl, h4.no _ (List.mem_of_getElem? hN), hl, ?_⟩
    exact c.nx _ _ _ _ _ (l1.trans l2) (by rw [spo_eq]; exact up dx _ ys k3 k1 k2) (E.up (l1.trans l2).toLo) h2⟩
/-! ### methods -/
def onCa (ca : Addr → AL → Prop) (C : Addr) (P : AL → Prop) : Prop := ∃ g, ca C g ∧ P g
theorem r_ca {ca : Addr → AL → Prop} {C : Addr} {P : AL → Prop} {g : AL} (e : ca C g) (h : P g) : onCa ca C P := ⟨g, e, h⟩
theorem r_ins {p : PV} {S : Sto} {P : Addr → List Str → List PV → Prop} {C : Addr} {N : List Str} {xs : List PV} (e : insOf p S = some (C, N, xs)) (h : P C N xs) : onIns p S P := ⟨C, N, xs, e, h⟩
def csOf (K : PySem.W.Frag) (ca : Addr → AL → Prop) : Addr → Sp → Prop := fun C sp => ∃ g, ca C g ∧ sp = cSp K g
@[reducible] def aMd (m : Str) (ca : Addr → AL → Prop) (o : ATE) (t : ATA) : ATE := fun ρ S P => o ρ S fun x S1 => onIns x S1 fun C N _ => m ∉ N ∧ onCa ca C fun g => t ρ S1 fun ys S2 => g (x :: ys) S2 P
theorem se_md {m : Str} {ca : Addr → AL → Prop} (ha : SE K ta fa) (ht : SA K t f) : SE K (tMd K m (csOf K ca) E0 ta t) (aMd m ca fa f) := ⟨fun {W S σ ρ H Q P} I E h c =>
  ha.run I E h fun W1 S1 x p H1 l1 I1 r1 ⟨C, N, xs, e, hm, g, hg, h1⟩ => by
    obtain ⟨a, dx, fs, rfl, h2, h3, h4, h5, h6⟩ := r1.ins_at I1 e
    refine ⟨a, C, dx, fs, _, rfl, h2, h3.cl, no_at h5 hm, ⟨g, hg, rfl⟩, ?_⟩
    exact ht.run I1 (E.up l1.toLo) h1 fun W2 S2 vs ps H2 l2 I2 r2 h7 => ⟨W2, S2, p :: ps, P, I2, .cons (r1.up l2.toLo) r2, h7, c.up (l1.trans l2)⟩⟩
@[reducible] def aMdk (m : Str) (nk : Nat) (ca : Addr → AL → Prop) (o : ATE) (t tk : ATA) : ATE := fun ρ S P => o ρ S fun x S1 => onIns x S1 fun C N _ => m ∉ N ∧ onCa ca C fun g => t ρ S1 fun ys S2 => tk ρ S2 fun zs S3 => zs.length = nk ∧ g (x :: (ys ++ zs)) S3 P
theorem se_mdk {m : Str} {nk : Nat} {ca : Addr → AL → Prop} (ha : SE K ta fa) (ht : SA K t f) (hk : SA K tk fk) : SE K (tMdk K m nk (csOf K ca) E0 ta t tk) (aMdk m nk ca fa f fk) := ⟨fun {W S σ ρ H Q P} I E h c =>
  ha.run I E h fun W1 S1 x p H1 l1 I1 r1 ⟨C, N, xs, e, hm, g, hg, h1⟩ => by
    obtain ⟨a, dx, fs, rfl, h2, h3, h4, h5, h6⟩ := r1.ins_at I1 e
    refine ⟨a, C, dx, fs, _, rfl, h2, h3.cl, no_at h5 hm, ⟨g, hg, rfl⟩, ?_⟩
    exact ht.run I1 (E.up l1.toLo) h1 fun W2 S2 vs ps H2 l2 I2 r2 h7 => hk.run I2 (E.up (l1.trans l2).toLo) h7 fun W3 S3 zs qs H3 l3 I3 r3 ⟨hz, h8⟩ =>
      ⟨by rw [r3.length]; exact hz, W3, S3, p :: (ps ++ qs), P, I3, .cons (r1.up (l2.trans l3).toLo) ((r2.up l3.toLo).append r3), h8, c.up ((l1.trans l2).trans l3)⟩⟩
/-- o.f, a property -/
@[reducible] def aPr (ca : Addr → AL → Prop) (o : ATE) : ATE := fun ρ S P => o ρ S fun x S1 => onIns x S1 fun C _ _ => onCa ca C fun g => g [x] S1 P
theorem se_pr {ca : Addr → AL → Prop} (ha : SE K ta fa) : SE K (tPr K (csOf K ca) E0 ta) (aPr ca fa) := ⟨fun {W S σ ρ H Q P} I E h c =>
  ha.run I E h fun W1 S1 x p H1 l1 I1 r1 ⟨C, N, xs, e, g, hg, h1⟩ => by
    obtain ⟨a, dx, fs, rfl, h2, h3, h4, h5, h6⟩ := r1.ins_at I1 e
    exact ⟨a, C, dx, fs, _, rfl, h2, h3.cl, ⟨g, hg, rfl⟩, W1, S1, [p], P, I1, .cons r1 .nil, h1, c.up l1⟩⟩
/-! ### C(..) -/
theorem In.keep1 (I : In K W S H) {p : Addr} {o : HO} (hp : H p = none) : In K ⟨upd W.I p o, W.ad, W.fr⟩ S (upd H p o) ∧ W.Le ⟨upd W.I p o, W.ad, W.fr⟩ := by
  obtain ⟨ps, O, gr⟩ := I.view
  exact gr _ _ (Ex.new (O.none hp)) (O.keep hp)
@[reducible] def aMk0 (C : Addr) (N : List Str) : ATE := fun _ S P => P (.ins C N []) S
theorem se_mk0 {C : Addr} {N : List Str} (hc : ClsF K C N) : SE K (tMk0 C) (aMk0 C N) := ⟨fun {W S σ ρ H Q P} I E h c => fun x dx hx hd ne => by
  obtain ⟨I1, l1⟩ := I.keep1 (o := .own x) hd
  have hx1 : upd H dx (.own x) x = none := by rw [upd_ne (Ne.symm ne)]; exact hx
  obtain ⟨I2, l2⟩ := I1.keep1 (o := .ins C dx []) hx1
  exact c _ _ _ _ _ (l1.trans l2) I2 (.ins (fs := []) (xs := []) upd_same hc (Nat.zero_le _) rfl .nil) h⟩
@[reducible] def aMk0O (C : Addr) (N : List Str) : ATE := fun _ S P => newO S (.ins C N []) P
theorem se_mk0O {C : Addr} {N : List Str} (hc : ClsF K C N) : SE K (tMk0 C) (aMk0O C N) := ⟨fun {W S σ ρ H Q P} I E h c => fun x dx hx hd ne => by
  obtain ⟨I1, l1⟩ := I.keep1 (o := .own x) hd
  have hx1 : upd H dx (.own x) x = none := by rw [upd_ne (Ne.symm ne)]; exact hx
  obtain ⟨I2, l2, r2⟩ := I1.ownG (o := .ins C dx []) (ao := .ins C N []) hx1 (.ins hc (Nat.zero_le _) rfl .nil)
  exact c _ _ _ _ _ (l1.trans l2) I2 r2 h.h⟩
@[reducible] def aMk (C : Addr) (N : List Str) (nk : Nat) (g : AL) (t tk : ATA) : ATE := fun ρ S P => t ρ S fun ys S1 => tk ρ S1 fun zs S2 => zs.length = nk ∧ newO S2 (.ins C N []) fun me S3 => g (me :: (ys ++ zs)) S3 fun v S4 => v = .non ∧ P me S4
theorem se_mk {C : Addr} {N : List Str} {nk : Nat} {g : AL} (hc : ClsF K C N) (ht : SA K t f) (hk : SA K tk fk) : SE K (tMk C nk (cSp K g) E0 t tk) (aMk C N nk g f fk) := ⟨fun {W S σ ρ H Q P} I E h c =>
  ht.run I E h fun W1 S1 vs ps H1 l1 I1 r1 h1 => hk.run I1 (E.up l1.toLo) h1 fun W2 S2 zs qs H2 l2 I2 r2 ⟨hz, h2⟩ => ⟨by rw [r2.length]; exact hz, fun x dx hx hd ne => by
    obtain ⟨I3, l3⟩ := I2.keep1 (o := .own x) hd
    have hx1 : upd H2 dx (.own x) x = none := by rw [upd_ne (Ne.symm ne)]; exact hx
    obtain ⟨I4, l4, r4⟩ := I3.ownG (o := .ins C dx []) (ao := .ins C N []) hx1 (.ins hc (Nat.zero_le _) rfl .nil)
    have l := l3.trans l4
    refine ⟨_, _, _, _, I4, .cons r4 ((r1.up (l2.trans l).toLo).append (r2.up l.toLo)), h2.h, fun W5 S5 v p H5 l5 I5 r5 ⟨e, h5⟩ => ?_⟩
    subst e
    refine ⟨by cases r5; rfl, c _ _ _ _ _ (((l1.trans l2).trans l).trans l5) I5 (r4.up l5.toLo) h5⟩⟩⟩
/-! ### isinstance -/
inductive Ty where
  | non | bl | int | str | tup | lst | dct
@[reducible] def aoTy (o : AO) : Option Ty := match o with
  | .lst _ => some .lst
  | .dct _ _ => some .dct
  | .ins _ _ _ => none
@[reducible] def sTy : Sto → Nat → Option Ty
  | [], _ => none
  | o :: _, 0 => aoTy o
  | _ :: r, n + 1 => sTy r n
@[reducible] def tyOf (p : PV) (S : Sto) : Option Ty := match p with
  | .non => some .non
  | .bl _ => some .bl
  | .int _ => some .int
  | .str _ => some .str
  | .tup _ => some .tup
  | .kt _ => some .tup
  | .lst _ => some .lst
  | .scr _ => some .lst
  | .dct _ _ => some .dct
  | .own k => sTy S k
  | _ => none
def tyName : Ty → String
  | .non => "NoneType"
  | .bl => "bool"
  | .int => "int"
  | .str => "str"
  | .tup => "tuple"
  | .lst => "list"
  | .dct => "dict"
theorem sTy_own : ∀ {S : Sto} {k : Nat} {t : Ty}, sTy S k = some t → (∃ xs, S[k]? = some (.lst xs) ∧ t = .lst) ∨ ∃ ks xs, S[k]? = some (.dct ks xs) ∧ t = .dct
  | [], _, _, h => by cases h
  | .lst xs :: _, 0, _, h => by cases h; exact .inl ⟨xs, rfl, rfl⟩
  | .dct ks xs :: _, 0, _, h => by cases h; exact .inr ⟨ks, xs, rfl, rfl⟩
  | .ins _ _ _ :: _, 0, _, h => by cases h
  | _ :: r, n + 1, _, h => sTy_own (S := r) h
theorem VR.tyx (I : In K W S H) {v : V} {p : PV} (r : VR K W.I W.ad v p) {t : Ty} (e : tyOf p S = some t) : TyX K H v (.type (tyName t)) := by
  cases r with
  | non => cases e; exact .base .non
  | bl b => cases e; exact .base (.bl b)
  | int i => cases e; exact .base (.int i)
  | str x => cases e; exact .base (.str x)
  | tup h hs =>
    cases e
    obtain ⟨o, _, q⟩ := h
    exact .fTuple (I.exH _ _ q)
  | lst h hs => cases e; exact .base (.lst (I.exH _ _ h))
  | scr h =>
    cases e
    rcases SqL.up I.exH h with h | ⟨o, its, n, h1, h2, _⟩
    · rcases h with h | ⟨o, h⟩
      · exact .base (.lst h)
      · exact .base (.frz h)
    · exact .kList h1 h2
  | kt h hs =>
    cases e
    obtain ⟨o, its, n, h1, h2, _⟩ := h
    exact .kTuple h1 h2
  | dct h _ _ _ => cases e; exact .base (.dK (I.exH _ _ h))
  | own h =>
    rcases sTy_own e with ⟨xs, h1, rfl⟩ | ⟨ks, xs, h1, rfl⟩
    · obtain ⟨a, us, e1, e2, _⟩ := I.at (.own h) h1
      cases e1
      exact .base (.lst e2)
    · obtain ⟨a, kvs, e1, e2, _⟩ := I.atD (.own h) h1
      cases e1
      exact .base (.dK e2)
  | _ => cases e
/-- whether a value of the first type is an instance of the second -/
@[reducible] def isTy (t n : Ty) : Bool := match n with
  | .int => (match t with | .int => true | .bl => true | _ => false)
  | .bl => (match t with | .bl => true | _ => false)
  | .str => (match t with | .str => true | _ => false)
  | .tup => (match t with | .tup => true | _ => false)
  | .lst => (match t with | .lst => true | _ => false)
  | .dct => (match t with | .dct => true | _ => false)
  | .non => (match t with | .non => true | _ => false)
theorem isTy_ok (t n : Ty) : PySem.W.kitOne K (.type (tyName t)) (.type (tyName n)) = some (isTy t n) := by
  refine kit_ty ?_
  cases t <;> cases n <;> decide +kernel
/-- isinstance(e, n), n a built-in type -/
@[reducible] def aIsB (n : Ty) (e : ATE) : ATE := fun ρ S P => e ρ S fun x S1 => onO (tyOf x S1) fun t => P (.bl (isTy t n)) S1
theorem se_isB {n : Ty} (ha : SE K ta fa) : SE K (tCB (rIsi K) (tCons ta (tCons (tC (.ty (tyName n))) tNil))) (aIsB n fa) := ⟨fun I E h c =>
  ha.run I E h fun W1 S1 x p H1 l1 I1 r1 ⟨t, e, h1⟩ => ⟨x, .ty (tyName n), .type (tyName t), .type (tyName n), isTy t n, rfl, .ty _, r1.tyx I1 e, isTy_ok t n, c _ _ _ _ _ l1 I1 (.bl _) h1⟩⟩
/-- isinstance(e, C), C a class of the text: tab tells for which classes -/
def clsOr (x : PV) (S : Sto) (tab : Addr → Bool → Prop) (P : Bool → Prop) : Prop := (∃ t, tyOf x S = some t ∧ P false) ∨ onIns x S fun C' _ _ => ∃ b, tab C' b ∧ P b
@[reducible] def aIsC (tab : Addr → Bool → Prop) (e : ATE) : ATE := fun ρ S P => e ρ S fun x S1 => clsOr x S1 tab fun b => P (.bl b) S1
theorem se_isC {C : Addr} {tab : Addr → Bool → Prop} (h0 : ∀ t, PySem.W.kitOne K (.type (tyName t)) (.ref C) = some false) (h1 : ∀ C' b, tab C' b → PySem.W.kitOne K (.ref C') (.ref C) = some b) (ha : SE K ta fa) :
    SE K (tCB (rIsi K) (tCons ta (tCons (tC (.ref C)) tNil))) (aIsC tab fa) := ⟨fun I E h c =>
  ha.run I E h fun W1 S1 x p H1 l1 I1 r1 h2 => by
    rcases h2 with ⟨t, e, h2⟩ | ⟨C', N, xs, e, b, hb, h2⟩
    · exact ⟨x, .ref C, _, .ref C, false, rfl, .own C, r1.tyx I1 e, h0 t, c _ _ _ _ _ l1 I1 (.bl _) h2⟩
    · obtain ⟨a, dx, fs, rfl, e2, h3, _⟩ := r1.ins_at I1 e
      exact ⟨_, .ref C, _, .ref C, b, rfl, .own C, .base (.ins e2 h3.cl h3.ha h3.hn h3.ht h3.hm), h1 C' b hb, c _ _ _ _ _ l1 I1 (.bl _) h2⟩⟩
end
end L5

/-! a, *b = t; d.update(e). -/
namespace L3
open PySem PySem.Spec PyProof.Rows L2
section
variable {prog : Program} {w : World} {A : Around} {E : Value → Shared → Prop} {s : Shared}
theorem star_items {l : Addr} {items : Array Value} {i : Nat} {Q : List Value → Shared → Prop} (hl : IsTup s.heap l items) (hh : A.handled = none) (hi : i ≤ items.size) (hz : items.size ≤ sizeLine)
    (h : ∀ (h' : Heap) (tk : Nat), (∀ b o, s.heap.get? b = some o → h'.get? b = some o) → Q (items.toList.take i ++ [.ref h'.objs.size]) { s with heap := h'.push { cls := .type "list", data := .seq (items.toList.drop i).toArray }, toks := tk }) :
    wpAny (model prog w) A (unpackItems (.ref l) (i + 1) (some i)) Q E s := by
  have hlt : l ≠ s.heap.objs.size := by obtain ⟨o, ho, _⟩ := hl; exact Nat.ne_of_lt (Heap.lt_size ho)
  unfold unpackItems
  refine wpAny_bind ?_
  unfold notIterableAtAll
  refine wpAny_bind (wpAny_specialOf hl.typeIs slot_tuple_iter.lookup ?_)
  refine wpAny_pure ?_
  simp only [Bool.false_eq_true, if_false]
  refine wpAny_bind (wpAny_holding (iter_tuple hl ?_))
  refine wpAny_bind (wpAny_holding (draw_tuple hlt i 0 _ _ ⟨_, Heap.get?_push_size _ rfl, rfl, rfl⟩ (hl.push _) (by omega) fun h₁ hit₁ hs₁ => ?_))
  have hl₁ : IsTup h₁ l items := (hl.push _).extBut hs₁.extBut hlt
  rw [Nat.zero_add] at hit₁
  have hit₁' := hit₁
  obtain ⟨oi, hoi, _⟩ := hit₁'
  have hl₁' := hl₁
  obtain ⟨ol, hol, _⟩ := hl₁'
  rw [List.drop_zero]
  have hfl : (items.toList.take i).length = i := by rw [List.length_take, Array.length_toList]; omega
  rw [if_neg (show ¬ ((items.toList.take i).length < i) by rw [hfl]; omega)]
  refine wpAny_bind (wpAny_holding (PySem.W.kun_collect (s := { s with heap := h₁ }) (T := "tuple_iterator") (.inr (.inr (.inr rfl))) (Walks.tuple (A := A.in1) hh s.heap.objs.size l hlt items) (fun j u st => st.1.typeIs) (k := i) hi ⟨hit₁, hl₁⟩ (Heap.lt_size hoi) (Heap.lt_size hol) (fun h₂ tk hk => ?_) hz))
  have hmid : (items.toList.drop i).length - (i + 1 - 1 - i) = (items.toList.drop i).length := by omega
  show wpAny _ _ (if (items.toList.drop i).length < i + 1 - 1 - i then _ else _) _ _ _
  rw [if_neg (by omega)]
  show wpAny _ _ (newList ((items.toList.drop i).take ((items.toList.drop i).length - (i + 1 - 1 - i))) >>= fun d => pure (items.toList.take i ++ [d] ++ (items.toList.drop i).drop ((items.toList.drop i).length - (i + 1 - 1 - i)))) _ _ _
  rw [hmid, List.take_length, List.drop_length]
  have he : ∀ b o, s.heap.get? b = some o → h₂.get? b = some o := fun b o e => hk b o (Nat.ne_of_lt (Heap.lt_size e)) (hs₁.extBut b o (Nat.ne_of_lt (Heap.lt_size e)) (Heap.get?_push_of_some _ e))
  refine wpAny_bind (wpAny_newList ?_ (by rw [List.length_drop, Array.length_toList]; omega))
  refine wpAny_pure ?_
  rw [List.append_nil]
  exact h h₂ tk he
end
section
variable {X : Cx} {pos : Pos}
/-- a, .., *b = a tuple: n names ahead of the star, the star last -/
def gStar (K : PySem.W.Frag) (n : Nat) (t : TGs) : TG := fun v σ H Q => ∃ a xs, v = .ref a ∧ SqT K H a xs ∧ n ≤ xs.length ∧ ∀ l, H l = none → t (xs.take n ++ [.ref l]) σ (upd H l (.lst (xs.drop n))) Q
theorem pgs_star {t : TG} {g : Expr} {p : Pos} (h : PG X g t) : PGs X [.Starred g p] (gCons t gNil) := by
  refine ⟨fun pins s σ H vs us Q I r h1 => ?_⟩
  obtain ⟨v, r', rfl, h1⟩ := h1
  cases r with
  | cons r rs =>
    refine wpAny_bind (wpAny_holding (thn (h.run pins s σ H _ _ _ I r h1) fun _ s' ⟨σ', H', I', e, q⟩ => ?_))
    subst e
    cases rs
    exact wpAny_pure ⟨σ', H', I', q⟩
theorem pg_star {es : List Expr} {k : Nat} {t : TGs} {n : Nat} (hc : X.calm = true) (h : PGs X es t)
    (hn : (assignEach es X.env).length = n + 1 := by rfl) (hst : (assignEach es X.env).findIdx? (·.1) = some n := by rfl) : PG X (.Tuple es k pos) (gStar X.K n t) := by
  refine ⟨fun pins s σ H v u Q I r hw => ?_⟩
  obtain ⟨a, xs, e1, hq, hl, hw⟩ := hw
  subst e1
  cases r
  obtain ⟨its, rv, ht, hz⟩ := I.tuple hq
  have hlen : its.toArray.size = xs.length := by rw [List.size_toArray]; exact rv.length.symm
  rw [assign_Tuple]
  refine wpAny_bind (wpAny_standAt ?_)
  unfold unpack
  rw [hn, hst]
  refine wpAny_bind (wpAny_holding (star_items ht (I.ok.hd hc) (by rw [hlen]; exact hl) (by rw [hlen]; exact hz) fun h' tk hk => ?_))
  have I1 : Inv X pins σ H { s with heap := h', toks := tk } := I.kept (t' := tk) hk
  have fr : H h'.objs.size = none := I1.hok.fresh (Nat.le_refl _)
  have e1 : its.toArray.toList = its := by simp
  rw [e1]
  have I2 : Inv X pins σ (upd H h'.objs.size (.lst (xs.drop n))) { s with heap := h'.push { cls := .type "list", data := .seq (its.drop n).toArray }, toks := tk } :=
    I1.laid (t' := tk) (fun b u z => Heap.get?_push_of_some _ z) (Nat.le_refl _) ⟨by rw [List.length_drop]; omega, its.drop n, 0, rv.drop n, Heap.get?_push_size _ rfl⟩
  exact h.run pins _ σ _ (xs.take n ++ [.ref h'.objs.size]) _ Q I2 ((rv.take n).append (show Vals [V.ref h'.objs.size] [Value.ref h'.objs.size] from .cons rfl .nil)) (hw _ fr)
end
section
variable {X : Cx}
/-- d.update(e) -/
def rUpd : V → List V → Hp → VK → Prop := fun x xs H Q => ∃ a b kvs more, x = .ref a ∧ xs = [.ref b] ∧ a ≠ b ∧ H a = some (.dK kvs) ∧ Rd H b (.dK more) ∧ kvs.length + more.length ≤ sizeLine ∧ Q .non (upd H a (.dK (mergeK kvs more)))
theorem mt_update : MtR X "dict.update" rUpd := by
  intro pins s σ H x xs v us Q I r rx h
  obtain ⟨a, b, kvs, more, rfl, rfl, ne, ea, eb, hz, q⟩ := h
  cases r
  obtain ⟨u, rfl, ru⟩ := vals1 rx
  cases ru
  obtain ⟨z, hd, vs, rel, dd⟩ := dk_of I.hok ea
  obtain ⟨z2, hd2, vs2, rel2, dd2⟩ := dk_rd I.hok eb
  refine call_meetsIn PySem.F.slot_dict_update dd.typeIs PySem.F.entry_dict_update (PySem.F.args_dict_update_2 _ _) (meets_dict_update (mixKind X.prog X.w) a b ne hd2)
    ⟨vs, vs2, dd, dd2, by rw [← rel.length, ← rel2.length]; exact hz, fun h' dd' _ hs => ?_⟩
  refine ⟨.non, _, d_write I (by rw [ea]; exact True.intro) hs (let ⟨o, _, _, ho, _⟩ := dd'; ⟨o, ho⟩) (dk_new ?_ hd (rel2.merge rel) dd'), rfl, q⟩
  exact Nat.le_trans (length_mergeK more kvs) hz
end
end L3

/-! readings over trees: dicts, texts in tuples, stars in targets. -/
namespace L5
open PySem PySem.Spec PyProof.Rows L2 L3
@[reducible] def onKey (p : PV) (P : Key → Prop) : Prop := match p with
  | .int i => P (.inl i)
  | .str s => P (.inr s)
  | _ => False
@[reducible] def nthK : List Key → Nat → Option Key
  | [], _ => none
  | k :: _, 0 => some k
  | _ :: r, n + 1 => nthK r n
@[reducible] def nthP : List PV → Nat → Option PV
  | [], _ => none
  | k :: _, 0 => some k
  | _ :: r, n + 1 => nthP r n
@[reducible] def setP : List PV → Nat → PV → List PV
  | [], _, _ => []
  | _ :: r, 0, p => p :: r
  | x :: r, n + 1, p => x :: setP r n p
@[reducible] def dctOf (p : PV) (S : Sto) : Option (List Key × List PV) := match p with
  | .dct ks xs => some (ks, xs)
  | .own k => sgetD S k
  | _ => none
section
variable {K : PySem.W.Frag} {W W' : Wd} {S : Sto} {H : Hp} {P : AV} {Q : VK} {I : Hp} {ad : List Addr}
theorem VR.onKey {v : V} {p : PV} (r : VR K I ad v p) {P : Key → Prop} (h : onKey p P) : ∃ k, v = kV k ∧ P k := by
  cases r with
  | int i => exact ⟨.inl i, rfl, h⟩
  | str s => exact ⟨.inr s, rfl, h⟩
  | _ => exact h.elim
theorem VR.dct_at (I : In K W S H) {v : V} {p : PV} (r : VR K W.I W.ad v p) {ks : List Key} {xs : List PV} (e : dctOf p S = some (ks, xs)) :
    ∃ a kvs, v = .ref a ∧ H a = some (.dK kvs) ∧ kvs.map Prod.fst = ks ∧ ks.Nodup ∧ VRs K W.I W.ad (kvs.map Prod.snd) xs := by
  cases p with
  | dct ks' ys =>
    cases e
    exact (match r with
      | .dct h e n hs => ⟨_, _, rfl, I.exH _ _ h, e, n, hs⟩)
  | own k =>
    obtain ⟨a, kvs, h1, h2, h3, h4, h5, _⟩ := I.atD r (sgetD_eq e)
    exact ⟨a, kvs, h1, h2, h3, h4, h5⟩
  | _ => cases e
theorem nthK_eq : ∀ {ks : List Key} {i : Nat} {k : Key}, nthK ks i = some k → ks[i]? = some k
  | [], _, _, h => by cases h
  | _ :: _, 0, _, h => h
  | _ :: r, n + 1, _, h => nthK_eq (ks := r) h
theorem nthP_eq : ∀ {ks : List PV} {i : Nat} {k : PV}, nthP ks i = some k → ks[i]? = some k
  | [], _, _, h => by cases h
  | _ :: _, 0, _, h => h
  | _ :: r, n + 1, _, h => nthP_eq (ks := r) h
theorem val_at {k : Key} {v : V} : ∀ {kvs : List (Key × V)} {i : Nat}, (kvs.map Prod.fst).Nodup → kvs[i]? = some (k, v) → valV kvs k = some v
  | [], _, _, h => by cases h
  | p :: kvs, 0, _, h => by
    cases h
    exact valV_pos rfl
  | p :: kvs, i + 1, nd, h => by
    rw [List.map_cons, List.nodup_cons] at nd
    have h : kvs[i]? = some (k, v) := h
    rw [valV_neg fun e => nd.1 (by rw [e]; exact List.mem_map.mpr ⟨_, List.mem_of_getElem? h, rfl⟩)]
    exact val_at nd.2 h
theorem val_none {k : Key} : ∀ {kvs : List (Key × V)}, k ∉ kvs.map Prod.fst → valV kvs k = none
  | [], _ => rfl
  | p :: kvs, h => by
    rw [List.map_cons, List.mem_cons, not_or] at h
    rw [valV_neg (fun e => h.1 e.symm)]
    exact val_none h.2
theorem pair_at {α β : Type} {l : List (α × β)} {i : Nat} {a : α} {b : β} (h1 : (l.map Prod.fst)[i]? = some a) (h2 : (l.map Prod.snd)[i]? = some b) : l[i]? = some (a, b) := by
  rw [List.getElem?_map] at h1 h2
  cases z : l[i]? with
  | none => rw [z] at h1; cases h1
  | some q =>
    rw [z] at h1 h2
    obtain ⟨q1, q2⟩ := q
    cases h1
    cases h2
    rfl
theorem dget_at {kvs : List (Key × V)} {ks : List Key} {xs : List PV} {i : Nat} {k : Key} {p : PV} (e : kvs.map Prod.fst = ks) (nd : ks.Nodup) (rs : VRs K I ad (kvs.map Prod.snd) xs) (hk : ks[i]? = some k) (hx : xs[i]? = some p) : ∃ v, valV kvs k = some v ∧ VR K I ad v p := by
  obtain ⟨v, hv, r⟩ := rs.get hx
  subst e
  exact ⟨v, val_at nd (pair_at hk hv), r⟩
theorem put_at {k : Key} {v : V} : ∀ {kvs : List (Key × V)} {i : Nat}, (kvs.map Prod.fst).Nodup → (kvs.map Prod.fst)[i]? = some k → kvs.map (fun kv => if kv.1 = k then (kv.1, v) else kv) = kvs.set i (k, v)
  | [], _, _, h => by cases h
  | p :: kvs, 0, nd, h => by
    cases h
    rw [List.map_cons, List.nodup_cons] at nd
    rw [List.map_cons, if_pos rfl, List.set_cons_zero]
    congr 1
    refine (List.map_congr_left fun q hq => ?_).trans (List.map_id _)
    rw [if_neg fun e => nd.1 (by rw [← e]; exact List.mem_map.mpr ⟨q, hq, rfl⟩)]
    rfl
  | p :: kvs, i + 1, nd, h => by
    rw [List.map_cons, List.nodup_cons] at nd
    have h : (kvs.map Prod.fst)[i]? = some k := h
    rw [List.map_cons, if_neg fun e => nd.1 (by rw [e]; exact List.mem_of_getElem? h), List.set_cons_succ, put_at nd.2 h]
theorem setP_eq : ∀ (xs : List PV) (i : Nat) (p : PV), setP xs i p = xs.set i p
  | [], _, _ => rfl
  | _ :: r, 0, p => rfl
  | x :: r, n + 1, p => by
    show x :: setP r n p = x :: r.set n p
    rw [setP_eq r n p]
theorem dput_at {kvs : List (Key × V)} {ks : List Key} {xs : List PV} {i : Nat} {k : Key} {v : V} {p : PV} (e : kvs.map Prod.fst = ks) (nd : ks.Nodup) (rs : VRs K I ad (kvs.map Prod.snd) xs) (hk : ks[i]? = some k) (r : VR K I ad v p) :
    (putK kvs k v).map Prod.fst = ks ∧ VRs K I ad ((putK kvs k v).map Prod.snd) (setP xs i p) := by
  subst e
  have ha : (kvs.any fun kv => decide (kv.1 = k)) = true := by
    rw [List.any_eq_true]
    obtain ⟨q, hq, e⟩ := List.mem_map.mp (List.mem_of_getElem? hk)
    exact ⟨q, hq, by rw [e]; simp⟩
  unfold putK
  rw [if_pos ha, put_at nd hk, List.map_set, List.map_set, setP_eq]
  refine ⟨?_, rs.set r i⟩
  apply List.ext_getElem?
  intro j
  rw [List.getElem?_set]
  split
  · rename_i e
    subst e
    have := (List.getElem?_eq_some_iff.mp hk).1
    rw [if_pos this, hk]
  · rfl
theorem dput_new {kvs : List (Key × V)} {ks : List Key} {xs : List PV} {k : Key} {v : V} {p : PV} (e : kvs.map Prod.fst = ks) (nd : ks.Nodup) (rs : VRs K I ad (kvs.map Prod.snd) xs) (hk : k ∉ ks) (r : VR K I ad v p) :
    (putK kvs k v).map Prod.fst = ks ++ [k] ∧ (ks ++ [k]).Nodup ∧ VRs K I ad ((putK kvs k v).map Prod.snd) (xs ++ [p]) := by
  subst e
  rw [putK_new v (val_none hk), List.map_append, List.map_append]
  refine ⟨rfl, ?_, rs.append (.cons r .nil)⟩
  rw [List.nodup_append]
  exact ⟨nd, by simp, fun a ha b hb e => hk (by rw [List.mem_singleton] at hb; rw [← hb, ← e]; exact ha)⟩
variable {ta te tv : TE} {fa fe fv : ATE} {t tk : TA} {f fk : ATA}
/-- d[k], there -/
def dAt (ks : List Key) (xs : List PV) (k : Key) (P : PV → Prop) : Prop := ∃ i p, nthK ks i = some k ∧ nthP xs i = some p ∧ P p
def onD (o : Option (List Key × List PV)) (P : List Key → List PV → Prop) : Prop := ∃ ks xs, o = some (ks, xs) ∧ P ks xs
@[reducible] def aDGet (d k : ATE) : ATE := fun ρ S P => d ρ S fun x S1 => k ρ S1 fun y S2 => onD (dctOf x S2) fun ks xs => onKey y fun k => dAt ks xs k fun v => P v S2
theorem se_dget (ha : SE K ta fa) (he : SE K te fe) : SE K (tDGet ta te) (aDGet fa fe) := ⟨fun I E h c =>
  ha.run I E h fun W1 S1 x p H1 l1 I1 r1 h1 => he.run I1 (E.up l1.toLo) h1 fun W2 S2 y q H2 l2 I2 r2 ⟨ks, xs, e, h2⟩ => by
    obtain ⟨a, kvs, rfl, h3, h4, h5, h6⟩ := (r1.up l2.toLo).dct_at I2 e
    obtain ⟨k, rfl, i, z, hi, hz, h7⟩ := r2.onKey h2
    obtain ⟨v, hv, rv⟩ := dget_at h4 h5 h6 (nthK_eq hi) (nthP_eq hz)
    exact ⟨a, v, rfl, by rw [← hv]; exact .k h3, c _ _ _ _ _ (l1.trans l2) I2 rv h7⟩⟩
/-- k in d -/
structure dIn (ks : List Key) (k : Key) (P : Bool → Prop) : Prop where
  h : P (ks.any fun j => decide (j = k))
theorem val_some {k : Key} {kvs : List (Key × V)} : (valV kvs k).isSome = (kvs.map Prod.fst).any fun j => decide (j = k) := by
  rw [← valV_any, List.any_map]
  rfl
@[reducible] def aDIn (k d : ATE) : ATE := fun ρ S P => k ρ S fun y S1 => d ρ S1 fun x S2 => onD (dctOf x S2) fun ks _ => onKey y fun k => dIn ks k fun b => P (.bl b) S2
@[reducible] def aDNotIn (k d : ATE) : ATE := fun ρ S P => k ρ S fun y S1 => d ρ S1 fun x S2 => onD (dctOf x S2) fun ks _ => onKey y fun k => dIn ks k fun b => P (.bl (!b)) S2
theorem se_din (he : SE K te fe) (ha : SE K ta fa) : SE K (tDIn te ta) (aDIn fe fa) := ⟨fun I E h c =>
  he.run I E h fun W1 S1 y q H1 l1 I1 r1 h1 => ha.run I1 (E.up l1.toLo) h1 fun W2 S2 x p H2 l2 I2 r2 ⟨ks, xs, e, h2⟩ => by
    obtain ⟨a, kvs, rfl, h3, h4, h5, h6⟩ := r2.dct_at I2 e
    obtain ⟨k, rfl, h7⟩ := (r1.up l2.toLo).onKey h2
    refine ⟨a, _, rfl, .k h3, ?_⟩
    rw [val_some, h4]
    exact c _ _ _ _ _ (l1.trans l2) I2 (.bl _) h7.h⟩
theorem se_dnotin (he : SE K te fe) (ha : SE K ta fa) : SE K (tDNotIn te ta) (aDNotIn fe fa) := ⟨fun I E h c =>
  he.run I E h fun W1 S1 y q H1 l1 I1 r1 h1 => ha.run I1 (E.up l1.toLo) h1 fun W2 S2 x p H2 l2 I2 r2 ⟨ks, xs, e, h2⟩ => by
    obtain ⟨a, kvs, rfl, h3, h4, h5, h6⟩ := r2.dct_at I2 e
    obtain ⟨k, rfl, h7⟩ := (r1.up l2.toLo).onKey h2
    refine ⟨a, _, rfl, .k h3, ?_⟩
    rw [val_some, h4]
    exact c _ _ _ _ _ (l1.trans l2) I2 (.bl _) h7.h⟩
/-- d[k] = v: a key that is there, a new key -/
@[reducible] def snc {α : Type} : List α → α → List α
  | [], x => [x]
  | y :: r, x => y :: snc r x
theorem snc_eq {α : Type} : ∀ (l : List α) (x : α), snc l x = l ++ [x]
  | [], _ => rfl
  | y :: r, x => by
    show y :: snc r x = y :: (r ++ [x])
    rw [snc_eq r x]
def dPut (ks : List Key) (xs : List PV) (k : Key) (v : PV) (P : List Key → List PV → Prop) : Prop := (∃ i, nthK ks i = some k ∧ P ks (setP xs i v)) ∨ (k ∉ ks ∧ ks.length < 10000 ∧ P (snc ks k) (snc xs v))
def onOwnD (x : PV) (S : Sto) (P : Nat → List Key → List PV → Prop) : Prop := ∃ n ks xs, x = .own n ∧ sgetD S n = some (ks, xs) ∧ ks.length ≤ 10000 ∧ P n ks xs
@[reducible] def aDPut (d k v : ATE) : ATS := fun D ρ S => v ρ S fun z S1 => d ρ S1 fun x S2 => k ρ S2 fun y S3 => onOwnD x S3 fun n ks xs => onKey y fun k => dPut ks xs k z fun ks' xs' => D.nx ρ (spo S3 n (.dct ks' xs'))
theorem ss_dput (ha : SE K ta fa) (he : SE K te fe) (hv : SE K tv fv) : SS K (sDPut ta te tv) (aDPut fa fe fv) := ⟨fun I E h c =>
  hv.run I E h fun W1 S1 z r H1 l1 I1 r1 h1 => ha.run I1 (E.up l1.toLo) h1 fun W2 S2 x p H2 l2 I2 r2 h2 => he.run I2 (E.up (l1.trans l2).toLo) h2 fun W3 S3 y q H3 l3 I3 r3 ⟨n, ks, xs, ep, e, hn, h3⟩ => by
    subst ep
    have l := (l1.trans l2).trans l3
    obtain ⟨a, kvs, rfl, h4, h5, h6, h7, up⟩ := I3.atD (r2.up l3.toLo) (sgetD_eq e)
    obtain ⟨k, rfl, h8⟩ := r3.onKey h3
    have hl : kvs.length < sizeLine := by
      have e1 := congrArg List.length h5
      rw [List.length_map] at e1
      rw [e1, sizeLine_eq]
      omega
    refine ⟨a, _, rfl, .k h4 hl, ?_⟩
    rcases h8 with ⟨i, hi, h8⟩ | ⟨hk, _, h8⟩
    · obtain ⟨g1, g2⟩ := dput_at h5 h6 h7 (nthK_eq hi) (r1.up (l2.trans l3).toLo)
      exact c.nx _ _ _ _ _ l (by rw [spo_eq]; exact up _ _ _ g1 h6 g2) (E.up l.toLo) h8
    · rw [snc_eq, snc_eq] at h8
      obtain ⟨g1, g2, g3⟩ := dput_new h5 h6 h7 hk (r1.up (l2.trans l3).toLo)
      exact c.nx _ _ _ _ _ l (by rw [spo_eq]; exact up _ _ _ g1 g2 g3) (E.up l.toLo) h8⟩
/-! ### displays -/
@[reducible] def aPrs : List (ATE × ATE) → AEnv → Sto → (List PV → List PV → Sto → Prop) → Prop
  | [], _, S, P => P [] [] S
  | (fk, fv) :: r, ρ, S, P => fk ρ S fun k S1 => fv ρ S1 fun v S2 => aPrs r ρ S2 fun ks vs S3 => P (k :: ks) (v :: vs) S3
structure SPrs (K : PySem.W.Frag) (ts : List (TE × TE)) (fs : List (ATE × ATE)) : Prop where
  run : ∀ {W S σ ρ H R P}, In K W S H → ER K W σ ρ → aPrs fs ρ S P → (∀ W' S' ps ks vs H', W.Le W' → In K W' S' H' → VRs K W'.I W'.ad (ps.map Prod.fst) ks → VRs K W'.I W'.ad (ps.map Prod.snd) vs → P ks vs S' → R ps H') → tPairs ts σ H R
theorem sps_nil : SPrs K [] [] := ⟨fun I E h c => c _ _ _ _ _ _ (.refl _) I .nil .nil h⟩
theorem sps_cons {ts : List (TE × TE)} {fs : List (ATE × ATE)} (ha : SE K ta fa) (he : SE K te fe) (hr : SPrs K ts fs) : SPrs K ((ta, te) :: ts) ((fa, fe) :: fs) := ⟨fun I E h c =>
  ha.run I E h fun W1 S1 x p H1 l1 I1 r1 h1 => he.run I1 (E.up l1.toLo) h1 fun W2 S2 y q H2 l2 I2 r2 h2 => hr.run I2 (E.up (l1.trans l2).toLo) h2 fun W3 S3 ps ks vs H3 l3 I3 r3 r4 h3 =>
    c _ _ _ _ _ _ ((l1.trans l2).trans l3) I3 (.cons (r1.up (l2.trans l3).toLo) r3) (.cons (r2.up l3.toLo) r4) h3⟩
@[reducible] def keyP : Key → PV
  | .inl i => .int i
  | .inr s => .str s
theorem VRs.keys {vs : List V} {ks : List Key} (h : VRs K I ad vs (ks.map keyP)) : vs = ks.map kV := by
  induction ks generalizing vs with
  | nil => cases h; rfl
  | cons k ks ih =>
    cases h with
    | cons h hs =>
      rw [ih hs]
      cases k with
      | inl i => cases h; rfl
      | inr s => cases h; rfl
theorem merge_id : ∀ (more : List (Key × V)) (kvs : List (Key × V)), ((kvs ++ more).map Prod.fst).Nodup → mergeK kvs more = kvs ++ more
  | [], kvs, _ => by simp [mergeK]
  | p :: more, kvs, nd => by
    have hp : p.1 ∉ kvs.map Prod.fst := by
      rw [List.map_append, List.nodup_append] at nd
      exact fun h => nd.2.2 _ h p.1 (by simp) rfl
    have e : putK kvs p.1 p.2 = kvs ++ [p] := putK_new p.2 (val_none hp)
    have ih := merge_id more (kvs ++ [p]) (by rw [List.append_assoc]; exact nd)
    show mergeK (putK kvs p.1 p.2) more = _
    rw [e, ih, List.append_assoc]
    rfl
theorem pairs_of {ps : List (V × V)} {ks : List Key} (h : ps.map Prod.fst = ks.map kV) : ps = (ks.zip (ps.map Prod.snd)).map fun kv => (kV kv.1, kv.2) := by
  induction ps generalizing ks with
  | nil => cases ks with
    | nil => rfl
    | cons _ _ => cases h
  | cons p ps ih => cases ks with
    | nil => cases h
    | cons k ks =>
      rw [List.map_cons, List.map_cons] at h
      obtain ⟨h1, h2⟩ := List.cons.inj h
      show p :: ps = (kV k, p.2) :: ((ks.zip (ps.map Prod.snd)).map fun kv => (kV kv.1, kv.2))
      rw [← ih h2, ← h1]
@[reducible] def keysOf : List PV → Option (List Key)
  | [] => some []
  | p :: r => match p with
    | .str s => (match keysOf r with
      | some ks => some (.inr s :: ks)
      | none => none)
    | .int i => (match keysOf r with
      | some ks => some (.inl i :: ks)
      | none => none)
    | _ => none
theorem keysOf_eq : ∀ {ps : List PV} {ks : List Key}, keysOf ps = some ks → ps = ks.map keyP
  | [], ks, h => by cases h; rfl
  | p :: r, ks, h => by
    cases p with
    | str s =>
      unfold keysOf at h
      cases z : keysOf r with
      | none => rw [z] at h; cases h
      | some l =>
        rw [z] at h
        cases h
        rw [keysOf_eq z]
        rfl
    | int s =>
      unfold keysOf at h
      cases z : keysOf r with
      | none => rw [z] at h; cases h
      | some l =>
        rw [z] at h
        cases h
        rw [keysOf_eq z]
        rfl
    | _ => cases h
def kOk (ps : List PV) (P : List Key → Prop) : Prop := ∃ ks : List Key, ps = ks.map keyP ∧ ks.Nodup ∧ ks.length ≤ 15 ∧ P ks
theorem r_kOk {ps : List PV} {ks : List Key} {P : List Key → Prop} (e : keysOf ps = some ks) (nd : ks.Nodup) (hl : ks.length ≤ 15) (h : P ks) : kOk ps P := ⟨ks, keysOf_eq e, nd, hl, h⟩
theorem r_dat {ks : List Key} {xs : List PV} {k : Key} {P : PV → Prop} {p : PV} (i : Nat) (h1 : nthK ks i = some k) (h2 : nthP xs i = some p) (h : P p) : dAt ks xs k P := ⟨i, p, h1, h2, h⟩
theorem r_onD {o : Option (List Key × List PV)} {P : List Key → List PV → Prop} {ks : List Key} {xs : List PV} (e : o = some (ks, xs)) (h : P ks xs) : onD o P := ⟨ks, xs, e, h⟩
theorem r_ownD {x : PV} {S : Sto} {P : Nat → List Key → List PV → Prop} {n : Nat} {ks : List Key} {xs : List PV} (e : x = .own n) (h1 : sgetD S n = some (ks, xs)) (h2 : ks.length ≤ 10000) (h : P n ks xs) : onOwnD x S P := ⟨n, ks, xs, e, h1, h2, h⟩
theorem r_dput {ks : List Key} {xs : List PV} {k : Key} {v : PV} {P : List Key → List PV → Prop} (i : Nat) (h1 : nthK ks i = some k) (h : P ks (setP xs i v)) : dPut ks xs k v P := .inl ⟨i, h1, h⟩
theorem r_dputN {ks : List Key} {xs : List PV} {k : Key} {v : PV} {P : List Key → List PV → Prop} (h1 : (ks.any fun j => decide (j = k)) = false) (h2 : ks.length < 10000) (h : P (snc ks k) (snc xs v)) : dPut ks xs k v P := .inr ⟨fun hm => by
  have := List.any_eq_false.mp h1 k hm
  simp at this, h2, h⟩
@[reducible] def aDisp (fs : List (ATE × ATE)) : ATE := fun ρ S P => aPrs fs ρ S fun ps vs S1 => kOk ps fun ks => P (.dct ks vs) S1
@[reducible] def aDispO (fs : List (ATE × ATE)) : ATE := fun ρ S P => aPrs fs ρ S fun ps vs S1 => kOk ps fun ks => newO S1 (.dct ks vs) P
theorem disp_core {ts : List (TE × TE)} {fs : List (ATE × ATE)} (hs : SPrs K ts fs) {σ : St} {ρ : AEnv} {R : List PV → List PV → Sto → Prop} (I : In K W S H) (E : ER K W σ ρ) (h : aPrs fs ρ S R) {Q : VK}
    (c : ∀ J ad' p kvs ks vs S' H', W.Le ⟨J, ad', W.fr⟩ → In K ⟨J, ad', (p, .dK kvs) :: W.fr⟩ S' H' → kvs.map Prod.fst = ks → VRs K J ad' (kvs.map Prod.snd) vs → R (ks.map keyP) vs S' → ks.Nodup → ks.length ≤ 15 → Q (.ref p) H')
    (hR : ∀ ps vs S', R ps vs S' → ∃ ks : List Key, ps = ks.map keyP ∧ ks.Nodup ∧ ks.length ≤ 15) : tDisp ts σ H Q := fun p hp => by
  have I1 := I.push (o := .dK []) hp
  have E1 : ER K ⟨W.I, W.ad, (p, .dK []) :: W.fr⟩ σ ρ := ER.up (W := W) (W' := ⟨W.I, W.ad, (p, .dK []) :: W.fr⟩) ⟨Ex.refl _, fun _ _ e => e⟩ E
  refine hs.run I1 E1 h fun W2 S2 ps ks vs H2 l2 I2 r1 r2 h2 => ?_
  obtain ⟨J, ad', fr'⟩ := W2
  have hf : fr' = (p, .dK []) :: W.fr := l2.fr
  subst hf
  obtain ⟨e1, up⟩ := I2.pop
  obtain ⟨ks', rfl, nd, hz⟩ := hR _ _ _ h2
  have e2 := r1.keys
  have hl : ks'.length = (ps.map Prod.snd).length := by
    have := congrArg List.length e2
    simpa using this.symm
  have hm : ((ks'.zip (ps.map Prod.snd)).map Prod.fst) = ks' := List.map_fst_zip (by omega)
  have hm2 : ((ks'.zip (ps.map Prod.snd)).map Prod.snd) = ps.map Prod.snd := List.map_snd_zip (by omega)
  refine ⟨e1, ks'.zip (ps.map Prod.snd), pairs_of e2, by rw [List.length_zip]; omega, ?_⟩
  rw [merge_id _ [] (by rw [List.nil_append, hm]; exact nd), List.nil_append]
  exact c J ad' p _ ks' vs S2 _ ⟨⟨l2.ex, l2.ad⟩, rfl⟩ (up _) hm (by rw [hm2]; exact r2) h2 nd hz
theorem se_disp {ts : List (TE × TE)} {fs : List (ATE × ATE)} (hs : SPrs K ts fs) : SE K (tDisp ts) (aDisp fs) := ⟨fun {W S σ ρ H Q P} I E h c =>
  disp_core hs I E h (fun J ad' p kvs ks vs S' H' l I' e r h2 nd hz => by
    obtain ⟨I2, l2⟩ := I'.keep
    obtain ⟨ks2, e2, _, _, h3⟩ := h2
    have : ks2 = ks := by
      have inj : ∀ a b : Key, keyP a = keyP b → a = b := by
        intro a b h
        cases a <;> cases b <;> cases h <;> rfl
      exact (List.map_inj_right inj).mp e2.symm
    subst this
    exact c _ _ _ _ _ ⟨⟨l.ex.trans l2.ex, fun k a e => l2.ad k a (l.ad k a e)⟩, l.fr⟩ I2 (.dct upd_same e nd (r.up l2)) h3) fun ps vs S' ⟨ks, h1, h2, h3, _⟩ => ⟨ks, h1, h2, h3⟩⟩
theorem se_dispO {ts : List (TE × TE)} {fs : List (ATE × ATE)} (hs : SPrs K ts fs) : SE K (tDisp ts) (aDispO fs) := ⟨fun {W S σ ρ H Q P} I E h c =>
  disp_core hs I E h (fun J ad' p kvs ks vs S' H' l I' e r h2 nd hz => by
    obtain ⟨I2, l2, r2⟩ := I'.finG (ao := .dct ks vs) (.dct e nd r)
    obtain ⟨ks2, e2, _, _, h3⟩ := h2
    have : ks2 = ks := by
      have inj : ∀ a b : Key, keyP a = keyP b → a = b := by
        intro a b h
        cases a <;> cases b <;> cases h <;> rfl
      exact (List.map_inj_right inj).mp e2.symm
    subst this
    exact c _ _ _ _ _ ⟨⟨l.ex.trans l2.ex, fun k a e => l2.ad k a (l.ad k a e)⟩, l.fr⟩ I2 r2 h3.h) fun ps vs S' ⟨ks, h1, h2, h3, _⟩ => ⟨ks, h1, h2, h3⟩⟩
/-- {} -/
@[reducible] def aNewD : ATE := fun _ S P => newO S (.dct [] []) P
@[reducible] def aNewDF : ATE := fun _ S P => P (.dct [] []) S
theorem se_newD : SE K tDNewK aNewD := ⟨fun {W S σ ρ H Q P} I E h c => fun p hp => by
  obtain ⟨I2, l2, r2⟩ := I.ownG (o := .dK []) (ao := .dct [] []) hp (.dct rfl .nil .nil)
  exact c _ _ _ _ _ l2 I2 r2 h.h⟩
theorem se_newDF : SE K tDNewK aNewDF := ⟨fun {W S σ ρ H Q P} I E h c => fun p hp => by
  obtain ⟨I2, l2⟩ := I.keep1 (o := .dK []) hp
  exact c _ _ _ _ _ l2 I2 (.dct (kvs := []) upd_same rfl .nil .nil) h⟩
/-! ### d.update(e) -/
@[reducible] def mrg : List Key → List PV → List Key → List PV → (List Key → List PV → Prop) → Prop
  | ks, xs, k :: ms, y :: ys, P => dPut ks xs k y fun ks' xs' => mrg ks' xs' ms ys P
  | ks, xs, [], _, P => P ks xs
  | ks, xs, _, [], P => P ks xs
theorem mrg_ok : ∀ {more : List (Key × V)} {ms : List Key} {ys : List PV} {kvs : List (Key × V)} {ks : List Key} {xs : List PV} {P : List Key → List PV → Prop}, kvs.map Prod.fst = ks → ks.Nodup → VRs K I ad (kvs.map Prod.snd) xs → more.map Prod.fst = ms → VRs K I ad (more.map Prod.snd) ys → mrg ks xs ms ys P →
    ∃ ks' xs', (mergeK kvs more).map Prod.fst = ks' ∧ ks'.Nodup ∧ VRs K I ad ((mergeK kvs more).map Prod.snd) xs' ∧ P ks' xs'
  | [], ms, ys, kvs, ks, xs, P, e, nd, r, e2, r2, h => by
    subst e2
    cases r2
    exact ⟨ks, xs, e, nd, r, h⟩
  | p :: more, ms, ys, kvs, ks, xs, P, e, nd, r, e2, r2, h => by
    cases ms with
    | nil => cases e2
    | cons m ms =>
      rw [List.map_cons] at e2
      obtain ⟨e3, e4⟩ := List.cons.inj e2
      subst e3
      cases r2 with
      | cons ra rb =>
        rcases h with ⟨i, hi, h⟩ | ⟨hk, _, h⟩
        · obtain ⟨g1, g2⟩ := dput_at (k := p.1) e nd r (nthK_eq hi) ra
          exact mrg_ok (more := more) (kvs := putK kvs p.1 p.2) g1 nd g2 e4 rb h
        · rw [snc_eq, snc_eq] at h
          obtain ⟨g1, g2, g3⟩ := dput_new (k := p.1) e nd r hk ra
          exact mrg_ok (more := more) (kvs := putK kvs p.1 p.2) g1 g2 g3 e4 rb h
end
end L5

/-! readings over trees: d.update(e), stars in targets, texts in tuples, the module's names. -/
namespace L5
open PySem PySem.Spec PyProof.Rows L2 L3
section
variable {K : PySem.W.Frag} {W W' : Wd} {S : Sto} {H : Hp} {P : AV} {Q : VK} {I : Hp} {ad : List Addr}
theorem In.own_none (I : In K W S H) {a : Addr} {k : Nat} (h : W.ad[k]? = some a) : W.I a = none := by
  obtain ⟨os, O, h1, _, _⟩ := I.ex
  have hk : k < os.length := by rw [h1]; exact (List.getElem?_eq_some_iff.mp h).1
  have hz : (W.ad.zip os ++ W.fr)[k]? = some (a, os[k]) := by
    rw [List.getElem?_append_left (by rw [List.length_zip, ← h1, Nat.min_self]; exact hk)]
    exact zip_get h (List.getElem?_eq_getElem hk)
  exact (O.pr _ (List.mem_of_getElem? hz)).2
theorem In.own_inj (I : In K W S H) {a : Addr} {k j : Nat} (h : W.ad[k]? = some a) (h2 : W.ad[j]? = some a) : k = j := by
  obtain ⟨os, O, h1, _, _⟩ := I.ex
  have hk : k < os.length := by rw [h1]; exact (List.getElem?_eq_some_iff.mp h).1
  have hj : j < os.length := by rw [h1]; exact (List.getElem?_eq_some_iff.mp h2).1
  have hz : ∀ i (hi : i < os.length), W.ad[i]? = some a → (W.ad.zip os ++ W.fr)[i]? = some (a, os[i]) := fun i hi e => by
    rw [List.getElem?_append_left (by rw [List.length_zip, ← h1, Nat.min_self]; exact hi)]
    exact zip_get e (List.getElem?_eq_getElem hi)
  exact nodup_inj O.nd (hz k hk h) (hz j hj h2) rfl
variable {ta te tv : TE} {fa fe fv : ATE} {t tk : TA} {f fk : ATA}
@[reducible] def aUpd (d m : ATE) : ATE := fun ρ S P => d ρ S fun x S1 => onOwnD x S1 fun _ _ _ => m ρ S1 fun y S2 => onOwnD x S2 fun n ks xs => onD (dctOf y S2) fun ms ys => y ≠ .own n ∧ ks.length + ms.length ≤ 10000 ∧ mrg ks xs ms ys fun ks' xs' => P .non (spo S2 n (.dct ks' xs'))
theorem se_upd (ha : SE K ta fa) (he : SE K te fe) : SE K (tBM K "dict" rUpd ta (tCons te tNil)) (aUpd fa fe) := ⟨fun I E h c =>
  ha.run I E h fun W1 S1 x p H1 l1 I1 r1 ⟨n, ks, xs, ep, e1, _, h1⟩ => by
    subst ep
    obtain ⟨a, kvs, rfl, h2, _⟩ := I1.atD r1 (sgetD_eq e1)
    refine ⟨.inr (.inr (.inl ⟨rfl, .inl ⟨kvs, h2⟩⟩)), he.run I1 (E.up l1.toLo) h1 fun W2 S2 y q H2 l2 I2 r2 ⟨n', ks', xs', ep, e3, hz, ms, ys, e4, ne, hz2, h3⟩ => ?_⟩
    cases ep
    have r3 := r1.up l2.toLo
    obtain ⟨a', kvs', e5, g1, g2, g3, g4, up⟩ := I2.atD r3 (sgetD_eq e3)
    cases e5
    obtain ⟨b, more, rfl, g5, g6, g7, g8⟩ := r2.dct_at I2 e4
    have hne : a ≠ b := by
      intro e
      subst e
      have ha : W2.ad[n]? = some a := by cases r3; assumption
      cases q with
      | own j =>
        have hb : W2.ad[j]? = some a := by cases r2; assumption
        exact ne (by rw [I2.own_inj hb ha])
      | dct ks2 ys2 =>
        have hI := I2.own_none ha
        cases r2 with
        | dct h _ _ _ => rw [h] at hI; cases hI
      | _ => cases e4
    obtain ⟨k3, x3, q1, q2, q3, q4⟩ := mrg_ok g2 g3 g4 g6 g8 h3
    refine ⟨a, b, kvs', more, rfl, rfl, hne, g1, .inl g5, ?_, ?_⟩
    · have z1 := congrArg List.length g2
      have z2 := congrArg List.length g6
      rw [List.length_map] at z1 z2
      rw [z1, z2, sizeLine_eq]
      omega
    · exact c _ _ _ _ _ (l1.trans l2) (by rw [spo_eq]; exact up _ _ _ q1 q2 q3) .non q4⟩
/-! ### a, *b = t -/
/-- n ahead, the rest as a list -/
@[reducible] def starL : Nat → List PV → Option (List PV)
  | 0, xs => some [.lst xs]
  | _ + 1, [] => none
  | n + 1, x :: xs => match starL n xs with
    | some ys => some (x :: ys)
    | none => none
theorem starL_eq : ∀ {n : Nat} {xs ys : List PV}, starL n xs = some ys → n ≤ xs.length ∧ ys = xs.take n ++ [.lst (xs.drop n)]
  | 0, xs, ys, h => by cases h; exact ⟨Nat.zero_le _, rfl⟩
  | n + 1, [], ys, h => by cases h
  | n + 1, x :: xs, ys, h => by
    unfold starL at h
    cases z : starL n xs with
    | none => rw [z] at h; cases h
    | some l =>
      rw [z] at h
      cases h
      obtain ⟨h1, rfl⟩ := starL_eq z
      exact ⟨Nat.succ_le_succ h1, rfl⟩
@[reducible] def gaStar (n : Nat) (gs : AGs) : AG := fun it ρ S P => match it with
  | .many xs => onL (starL n xs) fun ys => gs ys ρ S P
  | .one p => onT p fun xs => onL (starL n xs) fun ys => gs ys ρ S P
theorem star_core {n : Nat} {gs : TGs} {fs : AGs} {ws : List Nat} (h2 : SGs K gs fs ws) {σ : St} {ρ : AEnv} {v : V} {a : Addr} {us : List V} {xs : List PV} {R : St → Hp → Prop} {P : AEnv → Sto → Prop} (I : In K W S H) (E : ER K W σ ρ) (ev : v = .ref a) (hq : SqT K H a us) (rs : VRs K W.I W.ad us xs)
    (hn : n ≤ xs.length) (h : fs (xs.take n ++ [.lst (xs.drop n)]) ρ S P) (c : ∀ W' S' σ' ρ' H', W.Le W' → In K W' S' H' → ER K W' σ' ρ' → Fx ws σ σ' → P ρ' S' → R σ' H') : gStar K n gs v σ H R := by
  refine ⟨a, us, ev, hq, by rw [rs.length]; exact hn, fun l hl => ?_⟩
  obtain ⟨I2, l2⟩ := I.keep1 (o := .lst (us.drop n)) hl
  have r2 : VR K (upd W.I l (.lst (us.drop n))) W.ad (.ref l) (.lst (xs.drop n)) := .lst upd_same ((rs.up l2.toLo).drop n)
  exact h2.run I2 (E.up l2.toLo) (((rs.up l2.toLo).take n).append (.cons r2 .nil)) h fun W3 S3 σ3 ρ3 H3 l3 => c W3 S3 σ3 ρ3 H3 (l2.trans l3)
theorem sg_star {n : Nat} {gs : TGs} {fs : AGs} {ws : List Nat} (h2 : SGs K gs fs ws) : SG K (gStar K n gs) (gaStar n fs) ws := ⟨fun {W S σ ρ H v it R P} I E r h c => by
  cases r with
  | many hq rs =>
    obtain ⟨ys, e, h⟩ := onL_of h
    obtain ⟨hn, rfl⟩ := starL_eq e
    exact star_core h2 I E rfl hq rs hn h c
  | one r =>
    obtain ⟨xs, rfl, h⟩ := r.onT h
    obtain ⟨ys, e, h⟩ := onL_of h
    obtain ⟨hn, rfl⟩ := starL_eq e
    obtain ⟨a, us, e, hq, rs⟩ := r.tupS I
    exact star_core h2 I E e hq rs hn h c⟩
/-! ### a, b = t, a tuple or a list -/
def gTupU (K : PySem.W.Frag) (n : Nat) (t : TGs) : TG := fun v σ H Q => gTup K n t v σ H Q ∨ gLst K n t v σ H Q
theorem pg_tupU {X : Cx} {pos : Pos} {es : List Expr} {k : Nat} {t : TGs} {n : Nat} (hc : X.calm = true) (h : PGs X es t)
    (hn : (assignEach es X.env).length = n := by rfl) (hst : (assignEach es X.env).findIdx? (·.1) = none := by rfl) : PG X (.Tuple es k pos) (gTupU X.K n t) :=
  ⟨fun pins s σ H v u Q I r hw => hw.elim ((pg_tup hc h hn hst).run pins s σ H v u Q I r) ((pg_lst hc h hn hst).run pins s σ H v u Q I r)⟩
theorem tupUK {X : Cx} {g : Expr} {n : Nat} {gs : TGs} (h : PG X g (gTupU X.K n gs)) (hK : X.K = K := by rfl) : PG X g (gTupU K n gs) := hK ▸ h
@[reducible] def gaTupU (n : Nat) (gs : AGs) : AG := fun it ρ S P => match it with
  | .many xs => xs.length = n ∧ gs xs ρ S P
  | .one p => onL (sq p S) fun xs => xs.length = n ∧ gs xs ρ S P
theorem sg_tupU {n : Nat} {gs : TGs} {fs : AGs} {ws : List Nat} (h2 : SGs K gs fs ws) : SG K (gTupU K n gs) (gaTupU n fs) ws := ⟨fun {W S σ ρ H v it R P} I E r h c => by
  cases r with
  | many hq rs => exact .inl ⟨_, _, rfl, hq, by rw [rs.length]; exact h.1, h2.run I E rs h.2 c⟩
  | one r =>
    obtain ⟨xs, e, hl, h3⟩ := onL_of h
    obtain ⟨a, us, rfl, hq, rs⟩ := r.sq I e
    rcases hq with hq | hq
    · exact .inr ⟨a, us, rfl, hq, by rw [rs.length]; exact hl, h2.run I E rs h3 c⟩
    · exact .inl ⟨a, us, rfl, hq, by rw [rs.length]; exact hl, h2.run I E rs h3 c⟩⟩
/-! ### a text in a tuple or list of texts -/
def textsOf (xs : List PV) (P : List Str → Prop) : Prop := ∃ zs : List Str, xs = zs.map PV.str ∧ P zs
@[reducible] def strsOf : List PV → Option (List Str)
  | [] => some []
  | p :: r => match p with
    | .str s => (match strsOf r with
      | some ks => some (s :: ks)
      | none => none)
    | _ => none
theorem strsOf_eq : ∀ {ps : List PV} {ks : List Str}, strsOf ps = some ks → ps = ks.map PV.str
  | [], ks, h => by cases h; rfl
  | p :: r, ks, h => by
    cases p with
    | str s =>
      unfold strsOf at h
      cases z : strsOf r with
      | none => rw [z] at h; cases h
      | some l =>
        rw [z] at h
        cases h
        rw [strsOf_eq z]
        rfl
    | _ => cases h
theorem r_texts {xs : List PV} {zs : List Str} {P : List Str → Prop} (e : strsOf xs = some zs) (h : P zs) : textsOf xs P := ⟨zs, strsOf_eq e, h⟩
theorem VRs.texts {vs : List V} {zs : List Str} (h : VRs K I ad vs (zs.map PV.str)) : vs = zs.map V.str := by
  induction zs generalizing vs with
  | nil => cases h; rfl
  | cons n ns ih => cases h with
    | cons h hs =>
      cases h
      rw [ih hs]; rfl
theorem inV_texts (s : Str) (zs : List Str) : inV (.str s) (zs.map V.str) = zs.any fun z => decide (z = s) := by
  unfold inV
  rw [List.any_map]
  congr 1
theorem flat_texts (zs : List Str) : (zs.map V.str).all flatV = true := by
  rw [List.all_eq_true]
  intro v hv
  obtain ⟨z, _, rfl⟩ := List.mem_map.mp hv
  rfl
@[reducible] def vInT : A2 := fun x y S P => onS x fun s => onL (sq y S) fun xs => textsOf xs fun zs => P (.bl (zs.any fun z => decide (z = s))) S
@[reducible] def vNotInT : A2 := fun x y S P => onS x fun s => onL (sq y S) fun xs => textsOf xs fun zs => P (.bl (!zs.any fun z => decide (z = s))) S
theorem so_inT : SO K (rInA K) vInT := ⟨fun {W S x y p q H Q P} I r1 r2 h c => by
  obtain ⟨s, rfl, _, h⟩ := r1.onS h
  obtain ⟨xs, e, zs, rfl, h⟩ := onL_of h
  obtain ⟨a, us, rfl, hq, rs⟩ := r2.sq I e
  rw [rs.texts] at hq
  exact .inl ⟨a, _, rfl, hq, rfl, flat_texts zs, by rw [if_neg Bool.false_ne_true, inV_texts]; exact c.at I (.bl _) h⟩⟩
theorem so_notInT : SO K (rNotInA K) vNotInT := ⟨fun {W S x y p q H Q P} I r1 r2 h c => by
  obtain ⟨s, rfl, _, h⟩ := r1.onS h
  obtain ⟨xs, e, zs, rfl, h⟩ := onL_of h
  obtain ⟨a, us, rfl, hq, rs⟩ := r2.sq I e
  rw [rs.texts] at hq
  exact .inl ⟨a, _, rfl, hq, rfl, flat_texts zs, by rw [if_pos rfl, inV_texts]; exact c.at I (.bl _) h⟩⟩
/-! ### names of the module -/
theorem se_kt {a : Addr} {us : List V} {xs : List PV} (h : KTup K a us) (r : ∀ I ad, VRs K I ad us xs) : SE K (tC (.ref a)) (aC (.kt xs)) := ⟨fun I _ h1 c => c.at I (.kt h (r _ _)) h1⟩
theorem se_ty {n : String} : SE K (tC (.ty n)) (aC (.ty n)) := ⟨fun I _ h c => c.at I (.ty n) h⟩
theorem se_cls {C : Addr} : SE K (tC (.ref C)) (aC (.cls C)) := ⟨fun I _ h c => c.at I (.cls C) h⟩
end
end L5

/-! promises put together. -/
namespace L5
open PySem PySem.Spec PyProof.Rows L2 L3
section
variable {K : PySem.W.Frag} {M : Addr → Sp → Prop} {C0 : Addr} {g0 : AL} {ca : Addr → AL → Prop}
theorem ca_one (h : M C0 (cSp K g0)) : ∀ C sp, csOf K (fun C g => C = C0 ∧ g = g0) C sp → M C sp := by
  rintro C sp ⟨g, ⟨rfl, rfl⟩, rfl⟩
  exact h
theorem ca_or (h : M C0 (cSp K g0)) (r : ∀ C sp, csOf K ca C sp → M C sp) : ∀ C sp, csOf K (fun C g => (C = C0 ∧ g = g0) ∨ ca C g) C sp → M C sp := by
  rintro C sp ⟨g, ⟨rfl, rfl⟩ | h2, rfl⟩
  · exact h
  · exact r C _ ⟨g, h2, rfl⟩
end
theorem pe_globE {X : Cx} {x : Str} {v : V} {pos : Pos} (hg : Gl X x) (h : ∃ u, X.mg x = some u ∧ RelV v u) (hd : (x == ("__debug__" : Str)) = false := by decide) : PE X (.Name x pos) (tC v) :=
  let ⟨_, h1, h2⟩ := h
  pe_glob hg h1 h2 hd
theorem pe_cg0 {X : Cx} {CX : CXT} {j k : Nat} {sp : Sp} {E : XK} {x : Str} {p pos : Pos} (c : Cg X.prog X.w X.K X.mg X.base CX k x sp) (hgd : X.A.guards = some []) (hr : Room j X.A) (hk : k ≤ j) (hg : Gl X x) (hx : Passes CX X E)
    (hdb : (x == ("__debug__" : Str)) = false := by decide) : PE X (.Call (.Name x p) [] [] pos) (tCall sp [] E tNil) := by
  obtain ⟨f, fd, ps, F, hm, kp, b⟩ := c.ex
  refine ⟨fun pins s σ H Q I h => ?_⟩
  refine wpAny_Call_Name_kw (ld_glob I hg hm ?_ hdb)
  refine PySem.W.callWith_K0 I.kIn kp ?_
  have q2 : sp [] H Q E := h
  have hb := b s [] I.kIn (F.len _ _ _ _ q2)
  exact run_g (us := []) (vs := []) F hgd (hr.mono hk) hb hx I .nil q2
section
variable {X : Cx} {K : PySem.W.Frag} {e : Expr} {m : Str} {cs : Addr → Sp → Prop} {E : XK} {ta : TE} {t tk : TA} {nk : Nat}
theorem mdK (h : PE X e (tMd X.K m cs E ta t)) (hK : X.K = K := by rfl) : PE X e (tMd K m cs E ta t) := hK ▸ h
theorem mdkK (h : PE X e (tMdk X.K m nk cs E ta t tk)) (hK : X.K = K := by rfl) : PE X e (tMdk K m nk cs E ta t tk) := hK ▸ h
theorem prK (h : PE X e (tPr X.K cs E ta)) (hK : X.K = K := by rfl) : PE X e (tPr K cs E ta) := hK ▸ h
theorem fldK (h : PE X e (tFld X.K ta m)) (hK : X.K = K := by rfl) : PE X e (tFld K ta m) := hK ▸ h
theorem kIsi (hK : X.K = K := by rfl) : CallR X (.builtin "isinstance") (rIsi K) := hK ▸ call_isi
theorem starK {g : Expr} {n : Nat} {gs : TGs} (h : PG X g (gStar X.K n gs)) (hK : X.K = K := by rfl) : PG X g (gStar K n gs) := hK ▸ h
end
theorem room_1 {X : Cx} {k : Nat} (hr : Room k X.A) : X.A.units + 1 < cLine := by have := hr.un; omega
section
variable {P : Program} {w : World} {K : PySem.W.Frag} {mg : Str → Option Value} {base : Heap} {k n : Nat} {f C : Addr} {fd : FuncData} {ps ks : List Str} {g : AL} {m : Str}
/-- nobody calls it -/
theorem fnG_no (h : ∀ vs S R, ¬ g vs S R) : FnG P w K mg base CX0 k f fd ps (cSp K g) :=
  ⟨fun vs H Q E ⟨_, _, _, _, _, _, z, _⟩ => (h _ _ _ z).elim, fun _ _ _ _ _ _ _ _ _ _ _ _ _ _ ⟨_, _, _, _, _, _, z, _⟩ => (h _ _ _ z).elim⟩
theorem fnG_weak {g' : AL} (F : FnG P w K mg base CX0 k f fd ps (cSp K g)) (h : ∀ vs S R, g' vs S R → g vs S R) : FnG P w K mg base CX0 k f fd ps (cSp K g') :=
  F.imp fun vs H Q E ⟨W, S, qs, R, I, r, z, c⟩ => ⟨W, S, qs, R, I, r, h _ _ _ z, c⟩
/-- self and n positions, then the keywords in another order -/
def askM (n nk : Nat) (sel : List Nat) (g : AL) : AL := fun vs S P => vs.length = 1 + n + nk ∧ g (vs.take (n + 1) ++ pickL sel (vs.drop (n + 1))) S P
theorem vrs_take_drop {I : Hp} {ad : List Addr} {x : V} {vs zs : List V} {qs : List PV} {n nk : Nat} (r : VRs K I ad (x :: (vs ++ zs)) qs) (hq : qs.length = 1 + n + nk) (hz : zs.length = nk) (sel : List Nat) :
    vs.length = n ∧ VRs K I ad (x :: vs ++ pickL sel zs) (qs.take (n + 1) ++ pickL sel (qs.drop (n + 1))) := by
  have hl := r.length
  rw [List.length_cons, List.length_append] at hl
  have hn : vs.length = n := by omega
  refine ⟨hn, ?_⟩
  have e1 : (x :: (vs ++ zs)).take (n + 1) = x :: vs := by rw [List.take_succ_cons, List.take_left' hn]
  have e2 : (x :: (vs ++ zs)).drop (n + 1) = zs := by rw [List.drop_succ_cons, List.drop_left' hn]
  have r1 := r.take (n + 1)
  have r2 := r.drop (n + 1)
  rw [e1] at r1
  rw [e2] at r2
  exact r1.append (r2.pick sel)
theorem cm_of (F : FnG P w K mg base CX0 k f fd ps (cSp K g)) (h : Meth K C m f) (b : Binds K fd ps []) : Cm P w K mg base CX0 k C m (cSp K g) := ⟨⟨f, fd, ps, F, h, b⟩⟩
theorem cp_of {p : Addr} (F : FnG P w K mg base CX0 k f fd ps (cSp K g)) (h : PropOf K C m p f) (b : Binds K fd ps []) : Cp P w K mg base CX0 k C m (cSp K g) := ⟨⟨p, f, fd, ps, F, h, b⟩⟩
theorem cmk_of (sel : List Nat) (F : FnG P w K mg base CX0 k f fd ps (cSp K g)) (h : Meth K C m f)
    (to : ∀ (s : Shared) (us ws : List Value), us.length = n + 1 → ws.length = ks.length → BindsTo s fd ⟨us, ks.zip ws⟩ (ps.zip (us ++ pickL sel ws))) : Cmk P w K mg base CX0 k C m n ks (cSp K (askM n ks.length sel g)) :=
  ⟨⟨f, fd, ps, fun us ws => us ++ pickL sel ws, fun vs zs => vs ++ pickL sel zs, _, F, h, ⟨fun s us ws _ h1 h2 => to s us ws h1 h2, fun r1 r2 => r1.append (vals_pick r2 sel)⟩, fun x vs zs H Q E ⟨W, S, qs, R, I, r, ⟨hq, hg⟩, c⟩ hz => by
    obtain ⟨hn, r2⟩ := vrs_take_drop r hq hz sel
    exact ⟨hn, W, S, _, R, I, r2, hg, c⟩⟩⟩
theorem ci_of (F : FnG P w K mg base CX0 k f fd ps (cSp K g)) (h : Mk K C f) (hn : ps.length = n + 1) (b : Binds K fd ps []) : Ck P w K mg base CX0 k C n [] (cSp K g) :=
  ⟨⟨f, fd, ps, fun us _ => us, fun vs _ => vs, _, F, h, ⟨fun s us ws X h1 _ => by
    have := b s us X (by rw [List.append_nil, h1, hn])
    rw [List.append_nil] at this
    exact this, fun r1 _ => r1⟩, fun x vs zs H Q E z hz => by
    cases zs with
    | cons _ _ => cases hz
    | nil =>
      rw [List.append_nil] at z
      have hl := F.len _ _ _ _ z
      rw [List.length_cons, hn] at hl
      exact ⟨by omega, z⟩⟩⟩
theorem cik_of (sel : List Nat) (F : FnG P w K mg base CX0 k f fd ps (cSp K g)) (h : Mk K C f)
    (to : ∀ (s : Shared) (us ws : List Value), us.length = n + 1 → ws.length = ks.length → BindsTo s fd ⟨us, ks.zip ws⟩ (ps.zip (us ++ pickL sel ws))) : Ck P w K mg base CX0 k C n ks (cSp K (askM n ks.length sel g)) :=
  ⟨⟨f, fd, ps, fun us ws => us ++ pickL sel ws, fun vs zs => vs ++ pickL sel zs, _, F, h, ⟨fun s us ws _ h1 h2 => to s us ws h1 h2, fun r1 r2 => r1.append (vals_pick r2 sel)⟩, fun x vs zs H Q E ⟨W, S, qs, R, I, r, ⟨hq, hg⟩, c⟩ hz => by
    obtain ⟨hn, r2⟩ := vrs_take_drop r hq hz sel
    exact ⟨hn, W, S, _, R, I, r2, hg, c⟩⟩⟩
end
end L5

/-! what nobody refers to any more is let go. -/
namespace L5
open PySem PySem.Spec PyProof.Rows L2 L3
mutual
def blw (n : Nat) : PV → Bool
  | .own k => decide (k < n)
  | .tup xs => blws n xs
  | .lst xs => blws n xs
  | .kt xs => blws n xs
  | .ins _ _ xs => blws n xs
  | .dct _ xs => blws n xs
  | .non => true
  | .bl _ => true
  | .int _ => true
  | .str _ => true
  | .scr _ => true
  | .ty _ => true
  | .cls _ => true
def blws (n : Nat) : List PV → Bool
  | [] => true
  | x :: xs => blw n x && blws n xs
end
def blwO (n : Nat) : AO → Bool
  | .lst xs => blws n xs
  | .dct _ xs => blws n xs
  | .ins _ _ xs => blws n xs
def blwS (n : Nat) : Sto → Bool
  | [] => true
  | o :: S => blwO n o && blwS n S
def blwE (n : Nat) : AEnv → Bool
  | [] => true
  | some p :: r => blw n p && blwE n r
  | none :: r => blwE n r
theorem blws_ints (n : Nat) : ∀ ns : List Int, blws n (ns.map PV.int) = true
  | [] => rfl
  | x :: ns => by rw [List.map_cons, blws, blws_ints n ns]; rfl
theorem blws_all (n : Nat) : ∀ xs : List PV, blws n xs = xs.all (blw n)
  | [] => rfl
  | x :: xs => by rw [blws, blws_all n xs]; rfl
mutual
theorem blw_nown (n : Nat) : ∀ {p : PV}, nown p = true → blw n p = true
  | .non, _ => rfl
  | .bl _, _ => rfl
  | .int _, _ => rfl
  | .str _, _ => rfl
  | .scr _, _ => rfl
  | .tup xs, h => by rw [nown] at h; rw [blw]; exact blws_nown n h
  | .lst xs, h => by rw [nown] at h; rw [blw]; exact blws_nown n h
  | .kt xs, h => by rw [nown] at h; rw [blw]; exact blws_nown n h
  | .own _, h => nomatch h
  | .ty _, _ => rfl
  | .cls _, _ => rfl
  | .ins _ _ _, h => nomatch h
  | .dct _ _, h => nomatch h
theorem blws_nown (n : Nat) : ∀ {xs : List PV}, nowns xs = true → blws n xs = true
  | [], _ => rfl
  | x :: xs, h => by
    rw [nowns, Bool.and_eq_true] at h
    rw [blws, blw_nown n h.1, blws_nown n h.2]
    rfl
end
section
variable {K : PySem.W.Frag} {W W' : Wd} {S : Sto} {H : Hp} {P : AV} {Q : VK} {I : Hp} {ad : List Addr} {n : Nat}
mutual
theorem VR.cut : ∀ {v : V} {p : PV}, VR K I ad v p → blw n p = true → VR K I (ad.take n) v p
  | _, _, .non, _ => .non
  | _, _, .bl b, _ => .bl b
  | _, _, .int i, _ => .int i
  | _, _, .str x, _ => .str x
  | _, _, .tup h hs, e => .tup h (VRs.cutB hs (by rw [blw] at e; exact e))
  | _, _, .lst h hs, e => .lst h (VRs.cutB hs (by rw [blw] at e; exact e))
  | _, _, .scr h, _ => .scr h
  | _, _, .own (k := k) h, e => .own (by
    rw [blw, decide_eq_true_eq] at e
    rw [List.getElem?_take_of_lt e]; exact h)
  | _, _, .ty n, _ => .ty n
  | _, _, .cls C, _ => .cls C
  | _, _, .kt h hs, e => .kt h (VRs.cutB hs (by rw [blw] at e; exact e))
  | _, _, .ins h c z e2 hs, e => .ins h c z e2 (VRs.cutB hs (by rw [blw] at e; exact e))
  | _, _, .dct h e2 nd hs, e => .dct h e2 nd (VRs.cutB hs (by rw [blw] at e; exact e))
theorem VRs.cutB : ∀ {vs : List V} {ps : List PV}, VRs K I ad vs ps → blws n ps = true → VRs K I (ad.take n) vs ps
  | _, _, .nil, _ => .nil
  | _, _, .cons h hs, e => by
    rw [blws, Bool.and_eq_true] at e
    exact .cons (VR.cut h e.1) (VRs.cutB hs e.2)
end
theorem OR.cut {o : HO} {a : AO} (h : OR K I ad o a) (e : blwO n a = true) : OR K I (ad.take n) o a := by
  cases h with
  | lst h => exact .lst (h.cutB e)
  | dct e2 nd h => exact .dct e2 nd (h.cutB e)
  | ins c z e2 h => exact .ins c z e2 (h.cutB e)
theorem ER.cut {σ : St} {ρ : AEnv} (h : ER K W σ ρ) (e : blwE n ρ = true) (W' : Wd) (hI : Ex W.I W'.I) (ha : W'.ad = W.ad.take n) : ER K W' σ ρ := by
  induction h with
  | nil => exact .nil
  | any h ih => exact .any (ih e)
  | cons h hs ih =>
    rw [blwE, Bool.and_eq_true] at e
    refine .cons ?_ (ih e.2)
    have := VR.cut h e.1
    rw [← ha] at this
    exact VR.up (W := ⟨W.I, W'.ad, []⟩) (W' := ⟨W'.I, W'.ad, []⟩) ⟨hI, fun _ _ e => e⟩ this
theorem blwS_at : ∀ {S : Sto} {k : Nat} {a : AO}, blwS n S = true → S[k]? = some a → blwO n a = true
  | [], _, _, _, h => by cases h
  | o :: S, 0, a, e, h => by
    cases h
    rw [blwS, Bool.and_eq_true] at e
    exact e.1
  | o :: S, k + 1, a, e, h => by
    rw [blwS, Bool.and_eq_true] at e
    exact blwS_at (S := S) (k := k) e.2 h
theorem Own.freezes : ∀ {L R : PL} {I : Hp}, Own I (L ++ R) H → ∃ I', Ex I I' ∧ Own I' R H
  | [], R, I, O => ⟨I, Ex.refl I, O⟩
  | (p, o) :: L, R, I, O => by
    obtain ⟨I', e, O'⟩ := Own.freezes (L := L) (R := R) (Own.freeze (ps := L ++ R) O)
    exact ⟨I', (Own.exf (ps := L ++ R) O).trans e, O'⟩
/-- the objects behind the first n are let go -/
theorem In.trim {S1 J : Sto} (h : In K W (S1 ++ J) H) (hb : blwS S1.length S1 = true) : ∃ I', Ex W.I I' ∧ In K ⟨I', W.ad.take S1.length, W.fr⟩ S1 H := by
  obtain ⟨os, O, h1, h2, h3⟩ := h.ex
  have hl : S1.length ≤ os.length := by rw [h2, List.length_append]; omega
  have e1 : W.ad.zip os = (W.ad.take S1.length).zip (os.take S1.length) ++ (W.ad.drop S1.length).zip (os.drop S1.length) := by
    rw [← List.zip_append (by rw [List.length_take, List.length_take, h1]), List.take_append_drop, List.take_append_drop]
  have O1 : Own W.I ((W.ad.drop S1.length).zip (os.drop S1.length) ++ ((W.ad.take S1.length).zip (os.take S1.length) ++ W.fr)) H := by
    refine O.perm ?_
    rw [e1, ← List.append_assoc]
    exact List.Perm.append_right _ List.perm_append_comm
  obtain ⟨I', ex, O2⟩ := Own.freezes O1
  refine ⟨I', ex, os.take S1.length, O2, by rw [List.length_take, List.length_take, h1], by rw [List.length_take]; omega, fun k o a q1 q2 => ?_⟩
  have hk : k < S1.length := (List.getElem?_eq_some_iff.mp q2).1
  rw [List.getElem?_take_of_lt hk] at q1
  have := h3 k o a q1 (by rw [List.getElem?_append_left hk]; exact q2)
  exact OR.up (W := ⟨W.I, W.ad.take S1.length, []⟩) (W' := ⟨I', W.ad.take S1.length, []⟩) ⟨ex, fun _ _ e => e⟩ (this.cut (blwS_at hb q2))
theorem In.ad_len (h : In K W S H) : W.ad.length = S.length := let ⟨_, _, h1, h2, _⟩ := h.ex; h1.symm.trans h2
theorem In.trim_le {S1 J : Sto} (h : In K W' (S1 ++ J) H) (l : W.Le W') (hn : W.ad.length ≤ S1.length) {I' : Hp} (e : Ex W'.I I') : W.Le ⟨I', W'.ad.take S1.length, W'.fr⟩ :=
  ⟨⟨l.ex.trans e, fun k a z => by
    have hk : k < W.ad.length := (List.getElem?_eq_some_iff.mp z).1
    show (W'.ad.take S1.length)[k]? = some a
    rw [List.getElem?_take_of_lt (by omega)]
    exact l.ad k a z⟩, l.fr⟩
/-- as it is, or with what is behind let go -/
def trimV (n : Nat) (P : AV) : AV := fun p S => P p S ∨ ∃ S1 J, S = S1 ++ J ∧ n ≤ S1.length ∧ blw S1.length p = true ∧ blwS S1.length S1 = true ∧ P p S1
def trimE (n : Nat) (P : AEnv → Sto → Prop) : AEnv → Sto → Prop := fun ρ S => P ρ S ∨ ∃ S1 J ρ1, S = S1 ++ J ∧ n ≤ S1.length ∧ EW ρ ρ1 ∧ blwE S1.length ρ1 = true ∧ blwS S1.length S1 = true ∧ P ρ1 S1
theorem r_trimV {n : Nat} {P : AV} {p : PV} {S S1 J : Sto} (e : S = S1 ++ J) (hn : n ≤ S1.length) (h1 : blw S1.length p = true) (h2 : blwS S1.length S1 = true) (h : P p S1) : trimV n P p S := .inr ⟨S1, J, e, hn, h1, h2, h⟩
theorem r_trimE {n : Nat} {P : AEnv → Sto → Prop} {ρ ρ1 : AEnv} {S S1 J : Sto} (e : S = S1 ++ J) (hn : n ≤ S1.length) (w : EW ρ ρ1) (h1 : blwE S1.length ρ1 = true) (h2 : blwS S1.length S1 = true) (h : P ρ1 S1) : trimE n P ρ S := .inr ⟨S1, J, ρ1, e, hn, w, h1, h2, h⟩
theorem CE.trim (c : CE K W P Q) (hn : W.ad.length ≤ n) : CE K W (trimV n P) Q := fun W' S' v p H' l I' r h => by
  rcases h with h | ⟨S1, J, rfl, h1, h2, h3, h⟩
  · exact c _ _ _ _ _ l I' r h
  · obtain ⟨I2, ex, I3⟩ := I'.trim h3
    refine c _ _ _ _ _ (I'.trim_le l (by omega) ex) I3 ?_ h
    exact VR.up (W := ⟨W'.I, W'.ad.take S1.length, []⟩) (W' := ⟨I2, W'.ad.take S1.length, []⟩) ⟨ex, fun _ _ e => e⟩ (VR.cut r h2)
theorem CS.trim {P : AEnv → Sto → Prop} {Q : St → Hp → Prop} (c : CS K W P Q) (hn : W.ad.length ≤ n) : CS K W (trimE n P) Q := fun W' S' σ ρ H' l I' E h => by
  rcases h with h | ⟨S1, J, ρ1, rfl, h1, w, h2, h3, h⟩
  · exact c _ _ _ _ _ l I' E h
  · obtain ⟨I2, ex, I3⟩ := I'.trim h3
    exact c _ _ _ _ _ (I'.trim_le l (by omega) ex) I3 ((E.weak w).cut h2 _ ex rfl) h
@[reducible] def aTrim (f : ATS) : ATS := fun D ρ S => f { nx := trimE S.length D.nx, rt := trimV S.length D.rt, bk := trimE S.length D.bk, ct := trimE S.length D.ct } ρ S
theorem ss_trim {t : TS} {f : ATS} (h : SS K t f) : SS K t (aTrim f) := ⟨fun I E z c => by
  have hn := Nat.le_of_eq I.ad_len
  exact h.run I E z ⟨c.nx.trim hn, c.rt.trim hn, c.bk.trim hn, c.ct.trim hn⟩⟩
end
section
variable {P : Program} {w : World} {K : PySem.W.Frag} {mg : Str → Option Value} {base : Heap} {k : Nat} {f : Addr} {fd : FuncData} {ps : List Str} {g : AL}
/-- a def's promise: what it made and does not hand back is let go -/
def trimL (g : AL) : AL := fun vs S P => g vs S (trimV S.length P)
theorem fnG_trim (F : FnG P w K mg base CX0 k f fd ps (cSp K g)) : FnG P w K mg base CX0 k f fd ps (cSp K (trimL g)) :=
  F.imp fun vs H Q E ⟨W, S, qs, R, I, r, z, c⟩ => ⟨W, S, qs, _, I, r, z, c.trim (Nat.le_of_eq I.ad_len)⟩
end
end L5
namespace L5
open PySem PySem.Spec PyProof.Rows L2 L3
/-! ### stores -/
theorem sget_at {S : Sto} {k : Nat} {xs : List PV} (h : S[k]? = some (.lst xs)) : sget S k = some xs := by
  induction S generalizing k with
  | nil => cases h
  | cons o S ih =>
    cases k with
    | zero => cases h; rfl
    | succ k => exact ih h
theorem sgetI_at {S : Sto} {k : Nat} {C : Addr} {N : List Str} {xs : List PV} (h : S[k]? = some (.ins C N xs)) : sgetI S k = some (C, N, xs) := by
  induction S generalizing k with
  | nil => cases h
  | cons o S ih =>
    cases k with
    | zero => cases h; rfl
    | succ k => exact ih h
theorem sgetD_at {S : Sto} {k : Nat} {ks : List Key} {xs : List PV} (h : S[k]? = some (.dct ks xs)) : sgetD S k = some (ks, xs) := by
  induction S generalizing k with
  | nil => cases h
  | cons o S ih =>
    cases k with
    | zero => cases h; rfl
    | succ k => exact ih h
theorem sput_spo (S : Sto) (k : Nat) (xs : List PV) : sput S k xs = spo S k (.lst xs) := by rw [sput_eq, spo_eq]
theorem sget_spo_same {S : Sto} {k : Nat} {xs : List PV} (hk : k < S.length) : sget (spo S k (.lst xs)) k = some xs := sget_at (by rw [spo_eq, List.getElem?_set_self hk])
theorem sget_spo_ne {S : Sto} {j k : Nat} {o : AO} {xs : List PV} (h : j ≠ k) (e : sget S k = some xs) : sget (spo S j o) k = some xs := sget_at (by rw [spo_eq, List.getElem?_set_ne h]; exact sget_eq e)
theorem sgetI_spo_same {S : Sto} {k : Nat} {C : Addr} {N : List Str} {xs : List PV} (hk : k < S.length) : sgetI (spo S k (.ins C N xs)) k = some (C, N, xs) := sgetI_at (by rw [spo_eq, List.getElem?_set_self hk])
theorem sgetI_spo_ne {S : Sto} {j k : Nat} {o : AO} {C : Addr} {N : List Str} {xs : List PV} (h : j ≠ k) (e : sgetI S k = some (C, N, xs)) : sgetI (spo S j o) k = some (C, N, xs) := sgetI_at (by rw [spo_eq, List.getElem?_set_ne h]; exact sgetI_eq e)
theorem sgetD_spo_ne {S : Sto} {j k : Nat} {o : AO} {ks : List Key} {xs : List PV} (h : j ≠ k) (e : sgetD S k = some (ks, xs)) : sgetD (spo S j o) k = some (ks, xs) := sgetD_at (by rw [spo_eq, List.getElem?_set_ne h]; exact sgetD_eq e)
theorem sget_lt {S : Sto} {k : Nat} {xs : List PV} (e : sget S k = some xs) : k < S.length := (List.getElem?_eq_some_iff.mp (sget_eq e)).1
theorem sgetI_lt {S : Sto} {k : Nat} {C : Addr} {N : List Str} {xs : List PV} (e : sgetI S k = some (C, N, xs)) : k < S.length := (List.getElem?_eq_some_iff.mp (sgetI_eq e)).1
theorem sgetD_lt {S : Sto} {k : Nat} {ks : List Key} {xs : List PV} (e : sgetD S k = some (ks, xs)) : k < S.length := (List.getElem?_eq_some_iff.mp (sgetD_eq e)).1
theorem ne_IL {S : Sto} {j k : Nat} {C : Addr} {N : List Str} {xs ys : List PV} (h1 : sgetI S k = some (C, N, xs)) (h2 : sget S j = some ys) : k ≠ j := fun e => by
  subst e
  have := (sgetI_eq h1).symm.trans (sget_eq h2)
  cases this
theorem spo_spo (S : Sto) (k : Nat) (a b : AO) : spo (spo S k a) k b = spo S k b := by rw [spo_eq, spo_eq, spo_eq, List.set_set]
theorem spo_comm (S : Sto) {j k : Nat} (a b : AO) (h : j ≠ k) : spo (spo S j a) k b = spo (spo S k b) j a := by rw [spo_eq, spo_eq, spo_eq, spo_eq, List.set_comm _ _ h]
theorem spo_self {S : Sto} {k : Nat} {xs : List PV} (e : sget S k = some xs) : spo S k (.lst xs) = S := by
  rw [spo_eq]
  have h := sget_eq e
  obtain ⟨hk, e2⟩ := List.getElem?_eq_some_iff.mp h
  rw [← e2, List.set_getElem_self]
theorem at_iL {ns : List Int} {i : Nat} (h : i < ns.length) : atI (iL ns) ((i : Nat) : Int) = some (.int (ns.getD i 0)) := by
  unfold atI ixN
  rw [if_pos (by omega), if_pos (by rw [List.length_map]; omega)]
  show (iL ns)[((i : Nat) : Int).toNat]? = _
  rw [show ((i : Nat) : Int).toNat = i by omega, List.getElem?_map, List.getElem?_eq_getElem h, List.getD_eq_getElem?_getD, List.getElem?_eq_getElem h]
  rfl
theorem ix_nat {n i : Nat} (h : i < n) : ixN n ((i : Nat) : Int) = some i := by
  unfold ixN
  rw [if_pos (by omega), if_pos (by omega)]
  rfl
end L5
namespace L5
open PySem PySem.Spec PyProof.Rows L2 L3
theorem r_and {p q : Prop} [Decidable p] [Decidable q] {X Y : Prop} (h : br (decide (p ∧ q)) X Y) : br (decide p) (br (decide q) X Y) (br false X Y) :=
  r_br (fun hp => r_br (fun hq => (h.t (decide_eq_true ⟨hp, hq⟩))) fun hq => (h.f (decide_eq_false fun z => hq z.2))) fun hp => r_brF (h.f (decide_eq_false fun z => hp z.1))
theorem r_and3 {p q r : Prop} [Decidable p] [Decidable q] [Decidable r] {X Y : Prop} (h : br (decide (p ∧ q ∧ r)) X Y) : br (decide p) (br (decide q) (br (decide r) X Y) (br false X Y)) (br false X Y) :=
  r_br (fun hp => r_br (fun hq => r_br (fun hr => (h.t (decide_eq_true ⟨hp, hq, hr⟩))) fun hr => (h.f (decide_eq_false fun z => hr z.2.2))) fun hq => r_brF (h.f (decide_eq_false fun z => hq z.2.1))) fun hp => r_brF (h.f (decide_eq_false fun z => hp z.1))
theorem r_or {p q : Prop} [Decidable p] [Decidable q] {X Y : Prop} (h : br (decide (p ∨ q)) X Y) : br (decide p) (br true X Y) (br (decide q) X Y) :=
  r_br (fun hp => r_brT (h.t (decide_eq_true (.inl hp)))) fun hp => r_br (fun hq => (h.t (decide_eq_true (.inr hq)))) fun hq => (h.f (decide_eq_false fun z => z.elim hp hq))
theorem r_cT {c : Bool} {A B : Prop} (e : c = true) (h : A) : br c A B := ⟨(fun _ => h), (fun e2 => nomatch (e.symm.trans e2))⟩
theorem r_cF {c : Bool} {A B : Prop} (e : c = false) (h : B) : br c A B := ⟨(fun e2 => nomatch (e.symm.trans e2)), (fun _ => h)⟩
/-- the deck of a law, as a dict: what its names are, what else it holds -/
abbrev XT := List Key × List PV
@[reducible] def dd3 (a b c : Str) (X : XT) (cells : List Int) (m k : Int) (G : Sto) : Sto := .lst (iL cells) :: .dct (.inr a :: .inr b :: .inr c :: X.1) (.own 0 :: .int m :: .int k :: X.2) :: G
@[reducible] def dx (a b c : Str) (X : XT) (D : Dk) (G : Sto) : Sto := dd3 a b c X D.cells D.m D.k G
@[reducible] def X0 : XT := ([], [])
/-- the deck of a script -/
def asp_source (a b c : Str) (X : XT) : AL := fun vs S P => ∃ ns : List Int, vs = [.scr ns] ∧ S = [] ∧ ns.length ≤ 63 ∧ ∀ D : Dk, D.Ok 0 → P (.own 1) (dx a b c X D [])
/-- a number below m -/
def asp_drw (a b c : Str) : AL := fun vs S P => ∃ (X : XT) (D : Dk) (G : Sto) (n m : Int), vs = [.own 1, .int m] ∧ S = dx a b c X D G ∧ X.1.length ≤ 100 ∧ D.Ok n ∧ n ≤ 1000000000 ∧ 1 ≤ m ∧ m ≤ 1000000000 ∧ ∀ r D', 0 ≤ r → r < m → D'.Ok (n + 1) → P (.int r) (dx a b c X D' G)
/-- one of some things -/
def asp_pck (a b c : Str) : AL := fun vs S P => ∃ (X : XT) (D : Dk) (G : Sto) (n : Int) (s : PV) (xs : List PV), vs = [.own 1, s] ∧ S = dx a b c X D G ∧ X.1.length ≤ 100 ∧ D.Ok n ∧ n ≤ 1000000000 ∧ 0 < xs.length ∧ xs.length ≤ 1000 ∧ (∀ D', sq s (dx a b c X D' G) = some xs) ∧ ∀ v D', v ∈ xs → D'.Ok (n + 1) → P v (dx a b c X D' G)
theorem sget_two (a b : AO) (G : Sto) (xs : List PV) : sget (a :: b :: (G ++ [.lst xs])) (G.length + 1 + 1) = some xs := sget_new G xs
theorem sput_two2 (a b : AO) (G : Sto) (xs ys : List PV) : sput (a :: b :: (G ++ [.lst xs])) (G.length + 1 + 1) ys = a :: b :: (G ++ [.lst ys]) := by
  show a :: b :: sput (G ++ [.lst xs]) G.length ys = _
  rw [sput_new]
theorem blwS_app (n : Nat) : ∀ S T : Sto, blwS n (S ++ T) = (blwS n S && blwS n T)
  | [], T => by rw [List.nil_append]; rfl
  | o :: S, T => by rw [List.cons_append, blwS, blwS, blwS_app n S T, Bool.and_assoc]
mutual
theorem blw_up {n m : Nat} (h : n ≤ m) : ∀ {p : PV}, blw n p = true → blw m p = true
  | .non, _ => rfl
  | .bl _, _ => rfl
  | .int _, _ => rfl
  | .str _, _ => rfl
  | .scr _, _ => rfl
  | .ty _, _ => rfl
  | .cls _, _ => rfl
  | .own k, e => by rw [blw, decide_eq_true_eq] at e ⊢; omega
  | .tup xs, e => by rw [blw] at e ⊢; exact blws_up h e
  | .lst xs, e => by rw [blw] at e ⊢; exact blws_up h e
  | .kt xs, e => by rw [blw] at e ⊢; exact blws_up h e
  | .ins _ _ xs, e => by rw [blw] at e ⊢; exact blws_up h e
  | .dct _ xs, e => by rw [blw] at e ⊢; exact blws_up h e
theorem blws_up {n m : Nat} (h : n ≤ m) : ∀ {xs : List PV}, blws n xs = true → blws m xs = true
  | [], _ => rfl
  | x :: xs, e => by
    rw [blws, Bool.and_eq_true] at e
    rw [blws, blw_up h e.1, blws_up h e.2]
    rfl
end
theorem blwO_up {n m : Nat} (h : n ≤ m) {o : AO} (e : blwO n o = true) : blwO m o = true := by
  cases o <;> exact blws_up h e
theorem blwS_up {n m : Nat} (h : n ≤ m) : ∀ {S : Sto}, blwS n S = true → blwS m S = true
  | [], _ => rfl
  | o :: S, e => by
    rw [blwS, Bool.and_eq_true] at e
    rw [blwS, blwO_up h e.1, blwS_up h e.2]
    rfl
theorem blwS_dxG {a b c : Str} {X : XT} {D : Dk} {G : Sto} (hX : blws 2 X.2 = true) (hG : blwS (G.length + 2) G = true) : blwS (dx a b c X D G).length (dx a b c X D G) = true := by
  show (blws (G.length + 2) (iL D.cells) && ((decide (0 < G.length + 2) && (true && (true && blws (G.length + 2) X.2))) && blwS (G.length + 2) G)) = true
  rw [blws_ints, blws_up (by omega) hX, hG, decide_eq_true (by omega)]
  rfl
theorem blwS_dx (a b c : Str) (X : XT) (D : Dk) (h : blws 2 X.2 = true) : blwS (dx a b c X D []).length (dx a b c X D []) = true := by
  show (blws 2 (iL D.cells) && ((true && (true && (true && blws 2 X.2))) && true)) = true
  rw [blws_ints, h]
  rfl
end L5

/-! the ends of laws. -/
namespace L5
open PySem PySem.Spec PyProof.Rows L2 L3
section
variable {P : Program} {w : World} {K : PySem.W.Frag} {mg : Str → Option Value} {base : Heap} {n : Nat} {f : Addr} {fd : FuncData} {ps : List Str}
/-- a def that calls itself, by a depth -/
theorem rec_fn {asp : Nat → AL} (step : ∀ (d : Nat) (prev : AL), (∀ vs S R, (∃ d', d = d' + 1 ∧ asp d' vs S R) → prev vs S R) → FnG P w K mg base CX0 (n + d) f fd ps (cSp K prev) → FnG P w K mg base CX0 (n + d + 1) f fd ps (cSp K (asp d))) :
    ∀ d, FnG P w K mg base CX0 (n + d + 1) f fd ps (cSp K (asp d))
  | 0 => step 0 (fun _ _ _ => False) (fun _ _ _ ⟨_, h, _⟩ => nomatch h) (fnG_no fun _ _ _ h => h)
  | d + 1 => step (d + 1) (asp d) (fun _ _ _ ⟨d', h, k⟩ => by cases h; exact k) (rec_fn step d)
/-- the same, s levels a turn -/
theorem rec_fnS {asp : Nat → AL} (s : Nat) (step : ∀ (d : Nat) (prev : AL), (∀ vs S R, (∃ d', d = d' + 1 ∧ asp d' vs S R) → prev vs S R) → FnG P w K mg base CX0 (n + s * d) f fd ps (cSp K prev) → FnG P w K mg base CX0 (n + s * d + s) f fd ps (cSp K (asp d))) :
    ∀ d, FnG P w K mg base CX0 (n + s * d + s) f fd ps (cSp K (asp d))
  | 0 => step 0 (fun _ _ _ => False) (fun _ _ _ ⟨_, h, _⟩ => nomatch h) (fnG_no fun _ _ _ h => h)
  | d + 1 => step (d + 1) (asp d) (fun _ _ _ ⟨d', h, k⟩ => by cases h; exact k) (by
    have := rec_fnS s step d
    rw [show n + s * (d + 1) = n + s * d + s by rw [Nat.mul_succ]; omega]
    exact this)
end
theorem ktup_of {K : PySem.W.Frag} {a : Addr} {od : Option Addr} {its : Array Value} {n : Nat} {sl : Array (Option Value)} {us : List V} (l : K.lookup a = some ⟨.type "tuple", od, .seq its n, sl⟩) (hz : its.size ≤ sizeLine) (r : Vals us its.toList) : KTup K a us := ⟨_, its, n, l, rfl, rfl, hz, r⟩
end L5

/-! a store refers to itself alone; objects two by two. -/
namespace L5
open PySem PySem.Spec PyProof.Rows L2 L3
section
variable {K : PySem.W.Frag} {W : Wd} {S : Sto} {H : Hp} {I : Hp} {ad : List Addr}
mutual
theorem VR.blw : ∀ {v : V} {p : PV}, VR K I ad v p → L5.blw ad.length p = true
  | _, _, .non => rfl
  | _, _, .bl b => rfl
  | _, _, .int i => rfl
  | _, _, .str x => rfl
  | _, _, .tup h hs => by rw [L5.blw]; exact VRs.blws hs
  | _, _, .lst h hs => by rw [L5.blw]; exact VRs.blws hs
  | _, _, .scr h => rfl
  | _, _, .own h => by rw [L5.blw, decide_eq_true_eq]; exact (List.getElem?_eq_some_iff.mp h).1
  | _, _, .ty n => rfl
  | _, _, .cls C => rfl
  | _, _, .kt h hs => by rw [L5.blw]; exact VRs.blws hs
  | _, _, .ins h c z e2 hs => by rw [L5.blw]; exact VRs.blws hs
  | _, _, .dct h e2 nd hs => by rw [L5.blw]; exact VRs.blws hs
theorem VRs.blws : ∀ {vs : List V} {ps : List PV}, VRs K I ad vs ps → L5.blws ad.length ps = true
  | _, _, .nil => rfl
  | _, _, .cons h hs => by
    rw [L5.blws, VR.blw h, VRs.blws hs]
    rfl
end
theorem OR.blw {o : HO} {a : AO} (h : OR K I ad o a) : blwO ad.length a = true := by
  cases h with
  | lst h => exact h.blws
  | dct e2 nd h => exact h.blws
  | ins c z e2 h => exact h.blws
theorem blwS_of {n : Nat} : ∀ {S : Sto}, (∀ (k : Nat) (a : AO), S[k]? = some a → blwO n a = true) → blwS n S = true
  | [], _ => rfl
  | o :: S, h => by
    rw [blwS, h 0 o rfl, blwS_of fun k a e => h (k + 1) a e]
    rfl
theorem In.closed (h : In K W S H) : blwS S.length S = true := by
  have hl := h.ad_len
  obtain ⟨os, O, h1, h2, h3⟩ := h.ex
  refine blwS_of fun k a e => ?_
  have hk : k < os.length := by rw [h2]; exact (List.getElem?_eq_some_iff.mp e).1
  have := (h3 k os[k] a (List.getElem?_eq_getElem hk) e).blw
  rw [hl] at this
  exact this
end
section
variable {P : Program} {w : World} {K : PySem.W.Frag} {mg : Str → Option Value} {base : Heap} {k : Nat} {f : Addr} {fd : FuncData} {ps : List Str} {g : AL}
/-- as trimL; that the store refers to itself alone comes for nothing -/
def trimC (g : AL) : AL := fun vs S P => blwS S.length S = true → g vs S (trimV S.length P)
theorem fnG_trimC (F : FnG P w K mg base CX0 k f fd ps (cSp K g)) : FnG P w K mg base CX0 k f fd ps (cSp K (trimC g)) :=
  F.imp fun vs H Q E ⟨W, S, qs, R, I, r, z, c⟩ => ⟨W, S, qs, _, I, r, z I.closed, c.trim (Nat.le_of_eq I.ad_len)⟩
theorem r_trimS {P : AV} {p : PV} {S J : Sto} (h1 : blw S.length p = true) (h2 : blwS S.length S = true) (h : P p S) : trimV S.length P p (S ++ J) := r_trimV rfl (Nat.le_refl _) h1 h2 h
end
theorem sgetD_new (S : Sto) (ks : List Key) (xs : List PV) : sgetD (S ++ [.dct ks xs]) S.length = some (ks, xs) := sgetD_at (by simp)
theorem sgetI_new (S : Sto) (C : Addr) (N : List Str) (xs : List PV) : sgetI (S ++ [.ins C N xs]) S.length = some (C, N, xs) := sgetI_at (by simp)
theorem spo_new (S : Sto) (a b : AO) : spo (S ++ [a]) S.length b = S ++ [b] := by rw [spo_eq]; simp
/-! ### objects two by two, behind a store -/
section
variable {α : Type} (o1 o2 : Nat → α → AO)
def two : Nat → List α → Sto
  | _, [] => []
  | i, x :: r => o1 i x :: o2 i x :: two (i + 1) r
theorem two_len : ∀ (i : Nat) (L : List α), (two o1 o2 i L).length = 2 * L.length
  | _, [] => rfl
  | i, x :: r => by rw [two, List.length_cons, List.length_cons, two_len (i + 1) r, List.length_cons]; omega
theorem two_snoc : ∀ (i : Nat) (L : List α) (x : α), two o1 o2 i (L ++ [x]) = two o1 o2 i L ++ [o1 (i + L.length) x, o2 (i + L.length) x]
  | i, [], x => rfl
  | i, y :: r, x => by
    rw [List.cons_append, two, two, two_snoc (i + 1) r x, List.length_cons, show i + 1 + r.length = i + (r.length + 1) by omega]
    rfl
theorem two_get : ∀ {i : Nat} {L : List α} {j : Nat} {x : α}, L[j]? = some x → (two o1 o2 i L)[2 * j]? = some (o1 (i + j) x) ∧ (two o1 o2 i L)[2 * j + 1]? = some (o2 (i + j) x)
  | _, [], _, _, h => by cases h
  | i, y :: r, 0, x, h => by cases h; exact ⟨rfl, rfl⟩
  | i, y :: r, j + 1, x, h => by
    obtain ⟨h1, h2⟩ := two_get (i := i + 1) (L := r) (j := j) (x := x) h
    rw [show i + 1 + j = i + (j + 1) by omega] at h1 h2
    rw [two, show 2 * (j + 1) = 2 * j + 1 + 1 by omega]
    exact ⟨h1, h2⟩
theorem two_set : ∀ {i : Nat} {L : List α} {j : Nat} (x : α), j < L.length → ((two o1 o2 i L).set (2 * j) (o1 (i + j) x)).set (2 * j + 1) (o2 (i + j) x) = two o1 o2 i (L.set j x)
  | _, [], _, _, h => absurd h (Nat.not_lt_zero _)
  | i, y :: r, 0, x, h => rfl
  | i, y :: r, j + 1, x, h => by
    have ih := two_set (i := i + 1) (L := r) (j := j) x (Nat.lt_of_succ_lt_succ h)
    rw [show i + 1 + j = i + (j + 1) by omega] at ih
    rw [two, show 2 * (j + 1) = 2 * j + 1 + 1 by omega, List.set_cons_succ, List.set_cons_succ, List.set_cons_succ, List.set_cons_succ, ih]
    rfl
theorem app_get (S T : Sto) {k : Nat} {o : AO} (h : T[k]? = some o) : (S ++ T)[S.length + k]? = some o := by
  rw [List.getElem?_append_right (by omega), Nat.add_sub_cancel_left]
  exact h
theorem two_spo {S : Sto} {L : List α} {j : Nat} (x : α) (hj : j < L.length) :
    spo (spo (S ++ two o1 o2 0 L) (S.length + 2 * j) (o1 j x)) (S.length + 2 * j + 1) (o2 j x) = S ++ two o1 o2 0 (L.set j x) := by
  rw [spo_eq, spo_eq, List.set_append_right _ _ (by omega), List.set_append_right _ _ (by omega), Nat.add_sub_cancel_left, show S.length + 2 * j + 1 - S.length = 2 * j + 1 by omega]
  have := two_set o1 o2 (i := 0) x hj
  rw [Nat.zero_add] at this
  rw [this]
theorem two_getA (S T : Sto) {L : List α} {j : Nat} {x : α} (h : L[j]? = some x) : (S ++ (two o1 o2 0 L ++ T))[S.length + 2 * j]? = some (o1 j x) ∧ (S ++ (two o1 o2 0 L ++ T))[S.length + 2 * j + 1]? = some (o2 j x) := by
  obtain ⟨h1, h2⟩ := two_get o1 o2 (i := 0) h
  rw [Nat.zero_add] at h1 h2
  refine ⟨app_get S _ ?_, ?_⟩
  · rw [List.getElem?_append_left (List.getElem?_eq_some_iff.mp h1).1]; exact h1
  · rw [Nat.add_assoc]
    refine app_get S _ ?_
    rw [List.getElem?_append_left (List.getElem?_eq_some_iff.mp h2).1]; exact h2
theorem two_spoA (S T : Sto) {L : List α} {j : Nat} (x : α) (hj : j < L.length) :
    spo (spo (S ++ (two o1 o2 0 L ++ T)) (S.length + 2 * j + 1) (o2 j x)) (S.length + 2 * j) (o1 j x) = S ++ (two o1 o2 0 (L.set j x) ++ T) := by
  have hl := two_len o1 o2 0 L
  have := two_set o1 o2 (i := 0) x hj
  rw [Nat.zero_add] at this
  rw [spo_comm _ _ _ (by omega), spo_eq, spo_eq, List.set_append_right _ _ (by omega), List.set_append_right _ _ (by omega), Nat.add_sub_cancel_left, show S.length + 2 * j + 1 - S.length = 2 * j + 1 by omega,
    List.set_append_left _ _ (by omega), List.set_append_left _ _ (by rw [List.length_set]; omega), this]
theorem two_lastA (S : Sto) (L : List α) (o : AO) : (S ++ (two o1 o2 0 L ++ [o]))[S.length + 2 * L.length]? = some o := by
  have := app_get S (two o1 o2 0 L ++ [o]) (k := 2 * L.length) (o := o) (by rw [← two_len o1 o2 0 L]; simp)
  exact this
theorem two_spoL (S : Sto) (L : List α) (o o' : AO) : spo (S ++ (two o1 o2 0 L ++ [o])) (S.length + 2 * L.length) o' = S ++ (two o1 o2 0 L ++ [o']) := by
  rw [spo_eq, List.set_append_right _ _ (by omega), Nat.add_sub_cancel_left, ← two_len o1 o2 0 L, List.set_append_right _ _ (by omega), Nat.sub_self]
  rfl
theorem at_nat {xs : List PV} {i : Nat} {p : PV} (h : xs[i]? = some p) : atI xs ((i : Nat) : Int) = some p := by
  have hi := (List.getElem?_eq_some_iff.mp h).1
  unfold atI ixN
  rw [if_pos (by omega), if_pos (by omega)]
  exact h
end
end L5

/-! expressions of programs, their values: no program of Python in sight. -/
namespace SP
open PySem L5
inductive Ev where
  | letter | speaker | turn
inductive Dv where
  | div | mod
inductive Op where
  | add | sub | mul | less | same
inductive Exp where
  | num (i : Int)
  | reg (i : Nat)
  | inp (i : Nat)
  | ev (w : Ev)
  | dv (w : Dv) (a : Exp) (n : Int)
  | op (w : Op) (a b : Exp)
@[reducible] def evS : Ev → Str
  | .letter => "letter"
  | .speaker => "speaker"
  | .turn => "turn"
@[reducible] def dvS : Dv → Str
  | .div => "div"
  | .mod => "mod"
@[reducible] def opS : Op → Str
  | .add => "add"
  | .sub => "sub"
  | .mul => "mul"
  | .less => "less"
  | .same => "same"
@[reducible] def Exp.pv : Exp → PV
  | .num i => .int i
  | .reg i => .tup [.str "register", .int (i : Nat)]
  | .inp i => .tup [.str "input", .int (i : Nat)]
  | .ev w => .tup [.str (evS w)]
  | .dv w a n => .tup [.str (dvS w), a.pv, .int n]
  | .op w a b => .tup [.str (opS w), a.pv, b.pv]
def Exp.depth : Exp → Nat
  | .num _ => 0
  | .reg _ => 0
  | .inp _ => 0
  | .ev _ => 0
  | .dv _ a _ => a.depth + 1
  | .op _ a b => max a.depth b.depth + 1
def Exp.ok : Exp → Prop
  | .num i => 0 ≤ i ∧ i < 1000000
  | .reg i => i < 10
  | .inp i => i < 6
  | .ev _ => True
  | .dv _ a n => a.ok ∧ 1 ≤ n ∧ n < 1000000
  | .op _ a b => a.ok ∧ b.ok
/-- what a program sees -/
structure Env where
  regs : List Int
  inps : List Int
  ev : Ev → Int
def opV : Op → Int → Int → Int
  | .add, a, b => (a + b) % 1000000
  | .sub, a, b => (a - b) % 1000000
  | .mul, a, b => a * b % 1000000
  | .less, a, b => if a < b then 1 else 0
  | .same, a, b => if a = b then 1 else 0
def Exp.val (E : Env) : Exp → Int
  | .num i => i
  | .reg i => E.regs.getD i 0
  | .inp i => E.inps.getD i 0
  | .ev w => E.ev w
  | .dv .div a n => a.val E / n
  | .dv .mod a n => a.val E % n
  | .op w a b => opV w (a.val E) (b.val E)
structure Env.ok (E : Env) : Prop where
  len : E.regs.length = 10
  few : E.inps.length ≤ 6
  regs : ∀ x ∈ E.regs, 0 ≤ x ∧ x < 1000000
  inps : ∀ x ∈ E.inps, 0 ≤ x ∧ x < 1000000
  ev : ∀ w, 0 ≤ E.ev w ∧ E.ev w < 1000000
theorem getD_ok {xs : List Int} (h : ∀ x ∈ xs, 0 ≤ x ∧ x < 1000000) (i : Nat) : 0 ≤ xs.getD i 0 ∧ xs.getD i 0 < 1000000 := by
  rw [List.getD_eq_getElem?_getD]
  cases e : xs[i]? with
  | none => exact ⟨Int.le_refl _, by decide⟩
  | some x => exact h x (List.mem_of_getElem? e)
theorem Exp.val_ok {E : Env} (hE : E.ok) : ∀ {e : Exp}, e.ok → 0 ≤ e.val E ∧ e.val E < 1000000
  | .num i, h => h
  | .reg i, _ => getD_ok hE.regs i
  | .inp i, _ => getD_ok hE.inps i
  | .ev w, _ => hE.ev w
  | .dv .div a n, ⟨h, h1, h2⟩ => by
    obtain ⟨h3, h4⟩ := Exp.val_ok hE h
    exact ⟨Int.ediv_nonneg h3 (by omega), Int.lt_of_le_of_lt (Int.ediv_le_self _ h3) h4⟩
  | .dv .mod a n, ⟨h, h1, h2⟩ => ⟨Int.emod_nonneg _ (by omega), Int.lt_of_lt_of_le (Int.emod_lt_of_pos _ (by omega)) (by omega)⟩
  | .op w a b, _ => by
    show 0 ≤ opV w (a.val E) (b.val E) ∧ opV w (a.val E) (b.val E) < 1000000
    cases w <;> unfold opV
    · exact ⟨Int.emod_nonneg _ (by decide), Int.emod_lt_of_pos _ (by decide)⟩
    · exact ⟨Int.emod_nonneg _ (by decide), Int.emod_lt_of_pos _ (by decide)⟩
    · exact ⟨Int.emod_nonneg _ (by decide), Int.emod_lt_of_pos _ (by decide)⟩
    · dsimp only; split <;> omega
    · dsimp only; split <;> omega
end SP

/-! statements of programs, what they do. -/
namespace SP
open PySem L5
inductive Stm where
  | set (r : Nat) (e : Exp)
  | ite (c : Exp) (a b : List Stm)
  | rep (c : Exp) (a : List Stm)
mutual
def Stm.pv : Stm → PV
  | .set r e => .tup [.str "set", .int (r : Nat), e.pv]
  | .ite c a b => .tup [.str "if", c.pv, .tup (Stm.pvs a), .tup (Stm.pvs b)]
  | .rep c a => .tup [.str "repeat", c.pv, .tup (Stm.pvs a)]
def Stm.pvs : List Stm → List PV
  | [] => []
  | s :: r => s.pv :: Stm.pvs r
end
theorem Stm.pv_set (r : Nat) (e : Exp) : (Stm.set r e).pv = .tup [.str "set", .int (r : Nat), e.pv] := by rw [Stm.pv]
theorem Stm.pv_ite (c : Exp) (a b : List Stm) : (Stm.ite c a b).pv = .tup [.str "if", c.pv, .tup (Stm.pvs a), .tup (Stm.pvs b)] := by rw [Stm.pv]
theorem Stm.pv_rep (c : Exp) (a : List Stm) : (Stm.rep c a).pv = .tup [.str "repeat", c.pv, .tup (Stm.pvs a)] := by rw [Stm.pv]
theorem Stm.pvs_map : ∀ ss : List Stm, Stm.pvs ss = ss.map Stm.pv
  | [] => rfl
  | s :: ss => by rw [Stm.pvs, Stm.pvs_map ss]; rfl
theorem Stm.pvs_append (a b : List Stm) : Stm.pvs (a ++ b) = Stm.pvs a ++ Stm.pvs b := by
  rw [Stm.pvs_map, Stm.pvs_map, Stm.pvs_map, List.map_append]
theorem Stm.pvs_len (a : List Stm) : (Stm.pvs a).length = a.length := by rw [Stm.pvs_map, List.length_map]
theorem Stm.pvs_get {a : List Stm} {i : Nat} {x : PV} (h : (Stm.pvs a)[i]? = some x) : ∃ s, a[i]? = some s ∧ x = s.pv := by
  rw [Stm.pvs_map, List.getElem?_map] at h
  cases e : a[i]? with
  | none => rw [e] at h; cases h
  | some s => rw [e] at h; cases h; exact ⟨s, rfl, rfl⟩
def Stm.iter (f : Env → Env) : Nat → Env → Env
  | 0, E => E
  | n + 1, E => f (Stm.iter f n E)
mutual
def Stm.run : Stm → Env → Env
  | .set r e, E => { E with regs := E.regs.set r (e.val E) }
  | .ite c a b, E => if c.val E = 0 then Stm.runs b E else Stm.runs a E
  | .rep c a, E => Stm.iter (Stm.runs a) (min (c.val E) 100).toNat E
def Stm.runs : List Stm → Env → Env
  | [], E => E
  | s :: r, E => Stm.runs r (s.run E)
end
mutual
/-- how deep statements stand in one another, and their expressions -/
def Stm.fits (n : Nat) : Nat → Stm → Prop
  | _, .set r e => r < 10 ∧ e.ok ∧ e.depth ≤ n
  | 0, .ite _ _ _ => False
  | 0, .rep _ _ => False
  | d + 1, .ite c a b => (c.ok ∧ c.depth ≤ n) ∧ Stm.fitss n d a ∧ Stm.fitss n d b
  | d + 1, .rep c a => (c.ok ∧ c.depth ≤ n) ∧ Stm.fitss n d a
def Stm.fitss (n : Nat) : Nat → List Stm → Prop
  | _, [] => True
  | d, s :: r => Stm.fits n d s ∧ Stm.fitss n d r
end
theorem Stm.fitss_all {n d : Nat} : ∀ {ss : List Stm}, Stm.fitss n d ss ↔ ∀ s ∈ ss, Stm.fits n d s
  | [] => ⟨fun _ _ h => (nomatch h), fun _ => by cases d <;> trivial⟩
  | s :: ss => by
    have ih := Stm.fitss_all (n := n) (d := d) (ss := ss)
    have e : Stm.fitss n d (s :: ss) = (Stm.fits n d s ∧ Stm.fitss n d ss) := by cases d <;> rfl
    rw [e, ih]
    simp
theorem Stm.fitss_at {n d : Nat} {ss : List Stm} (h : Stm.fitss n d ss) {i : Nat} {s : Stm} (e : ss[i]? = some s) : Stm.fits n d s := Stm.fitss_all.mp h s (List.mem_of_getElem? e)
/-- the events and the inputs stay -/
structure Env.Like (E F : Env) : Prop where
  inps : F.inps = E.inps
  ev : F.ev = E.ev
theorem Env.Like.refl (E : Env) : E.Like E := ⟨rfl, rfl⟩
theorem Env.Like.trans {E F G : Env} (h : E.Like F) (k : F.Like G) : E.Like G := ⟨k.inps.trans h.inps, k.ev.trans h.ev⟩
theorem Env.Like.eq {E F : Env} (h : E.Like F) : F = { E with regs := F.regs } := by
  cases F
  cases E
  cases h.inps
  cases h.ev
  rfl
theorem Env.set_ok {E : Env} (h : E.ok) {r : Nat} {v : Int} (hv : 0 ≤ v ∧ v < 1000000) : ({ E with regs := E.regs.set r v } : Env).ok :=
  ⟨by rw [← h.len]; exact List.length_set, h.few, fun x hx => by
    rcases List.mem_or_eq_of_mem_set hx with hx | rfl
    · exact h.regs x hx
    · exact hv, h.inps, h.ev⟩
theorem Stm.iter_ok {f : Env → Env} (hf : ∀ E, E.ok → (f E).ok ∧ E.Like (f E)) : ∀ (n : Nat) {E : Env}, E.ok → (Stm.iter f n E).ok ∧ E.Like (Stm.iter f n E)
  | 0, E, h => ⟨h, .refl E⟩
  | n + 1, E, h => by
    obtain ⟨h1, h2⟩ := Stm.iter_ok hf n h
    obtain ⟨h3, h4⟩ := hf _ h1
    exact ⟨h3, h2.trans h4⟩
mutual
theorem Stm.run_ok {n : Nat} : ∀ {d : Nat} {s : Stm} {E : Env}, Stm.fits n d s → E.ok → (s.run E).ok ∧ E.Like (s.run E)
  | d, .set r e, E, h, hE => by
    have h : r < 10 ∧ e.ok ∧ e.depth ≤ n := by cases d <;> exact h
    rw [Stm.run]
    exact ⟨Env.set_ok hE (Exp.val_ok hE h.2.1), ⟨rfl, rfl⟩⟩
  | 0, .ite _ _ _, _, h, _ => by exact h.elim
  | 0, .rep _ _, _, h, _ => by exact h.elim
  | d + 1, .ite c a b, E, h, hE => by
    have h : (c.ok ∧ c.depth ≤ n) ∧ Stm.fitss n d a ∧ Stm.fitss n d b := h
    rw [Stm.run]
    split
    · exact Stm.runs_ok h.2.2 hE
    · exact Stm.runs_ok h.2.1 hE
  | d + 1, .rep c a, E, h, hE => by
    have h : (c.ok ∧ c.depth ≤ n) ∧ Stm.fitss n d a := h
    rw [Stm.run]
    exact Stm.iter_ok (fun E hE => Stm.runs_ok h.2 hE) _ hE
theorem Stm.runs_ok {n : Nat} : ∀ {d : Nat} {ss : List Stm} {E : Env}, Stm.fitss n d ss → E.ok → (Stm.runs ss E).ok ∧ E.Like (Stm.runs ss E)
  | _, [], E, _, hE => by rw [Stm.runs]; exact ⟨hE, .refl E⟩
  | d, s :: r, E, h, hE => by
    have h : Stm.fits n d s ∧ Stm.fitss n d r := by cases d <;> exact h
    rw [Stm.runs]
    obtain ⟨h1, h2⟩ := Stm.run_ok h.1 hE
    obtain ⟨h3, h4⟩ := Stm.runs_ok h.2 h1
    exact ⟨h3, h2.trans h4⟩
end
theorem Stm.runs_take {ss : List Stm} {i : Nat} {s : Stm} (e : ss[i]? = some s) (E : Env) : Stm.runs (ss.take (i + 1)) E = s.run (Stm.runs (ss.take i) E) := by
  induction ss generalizing i E with
  | nil => cases e
  | cons t ss ih =>
    cases i with
    | zero =>
      cases e
      rw [List.take_succ_cons, List.take_zero, List.take_zero, Stm.runs, Stm.runs, Stm.runs]
    | succ i =>
      rw [List.take_succ_cons, List.take_succ_cons, Stm.runs, Stm.runs]
      exact ih e _
theorem Stm.runs_append (a b : List Stm) (E : Env) : Stm.runs (a ++ b) E = Stm.runs b (Stm.runs a E) := by
  induction a generalizing E with
  | nil => rw [List.nil_append, Stm.runs]
  | cons s a ih => rw [List.cons_append, Stm.runs, Stm.runs, ih]
/-- a program: hear, speak, what is said -/
structure Prg where
  hear : List Stm
  speak : List Stm
  say : Exp
@[reducible] def Prg.pv (p : Prg) : PV := .tup [.tup (Stm.pvs p.hear), .tup (Stm.pvs p.speak), p.say.pv]
def Prg.fits (n d : Nat) (p : Prg) : Prop := Stm.fitss n d p.hear ∧ Stm.fitss n d p.speak ∧ p.say.ok ∧ p.say.depth ≤ n
/-- events -/
def evs (l s t : Int) : Ev → Int
  | .letter => l
  | .speaker => s
  | .turn => t
end SP

/-! programs of laws: registers that are set, what may be shown. -/
namespace SP
open PySem L5 L3
/-- registers set from k on -/
def setS : Nat → List Int → List Stm
  | _, [] => []
  | k, v :: vs => .set k (.num v) :: setS (k + 1) vs
theorem setS_snoc : ∀ (k : Nat) (vs : List Int) (v : Int), setS k (vs ++ [v]) = setS k vs ++ [.set (k + vs.length) (.num v)]
  | k, [], v => rfl
  | k, w :: vs, v => by
    rw [List.cons_append, setS, setS, setS_snoc (k + 1) vs v, List.length_cons, List.cons_append, show k + 1 + vs.length = k + (vs.length + 1) by omega]
theorem setS_len : ∀ (k : Nat) (vs : List Int), (setS k vs).length = vs.length
  | _, [] => rfl
  | k, _ :: vs => by rw [setS, List.length_cons, List.length_cons, setS_len]
theorem setS_get : ∀ {k : Nat} {vs : List Int} {i : Nat} {s : Stm}, (setS k vs)[i]? = some s → ∃ v, vs[i]? = some v ∧ s = .set (k + i) (.num v)
  | _, [], _, _, h => by cases h
  | k, v :: vs, 0, s, h => by cases h; exact ⟨v, rfl, rfl⟩
  | k, v :: vs, i + 1, s, h => by
    obtain ⟨w, h1, h2⟩ := setS_get (k := k + 1) (vs := vs) (i := i) h
    exact ⟨w, h1, by rw [h2, show k + 1 + i = k + (i + 1) by omega]⟩
theorem setS_fits {n d : Nat} : ∀ {k : Nat} {vs : List Int}, k + vs.length ≤ 10 → (∀ v ∈ vs, 0 ≤ v ∧ v < 1000000) → Stm.fitss n d (setS k vs) := fun {k vs} hk hv => Stm.fitss_all.mpr fun s hs => by
  obtain ⟨i, hi, e⟩ := List.mem_iff_getElem.mp hs
  obtain ⟨v, h1, h2⟩ := setS_get (k := k) (vs := vs) (i := i) (s := s) (by rw [← e]; exact List.getElem?_eq_getElem hi)
  rw [setS_len] at hi
  have h3 : k + i < 10 ∧ (Exp.num v).ok ∧ (Exp.num v).depth ≤ n := ⟨by omega, hv v (List.mem_of_getElem? h1), Nat.zero_le _⟩
  rw [h2]
  cases d <;> exact h3
theorem setS_runs : ∀ (k : Nat) (vs : List Int) (E : Env), k + vs.length ≤ E.regs.length → (Stm.runs (setS k vs) E).regs = E.regs.take k ++ vs ++ E.regs.drop (k + vs.length)
  | k, [], E, h => by rw [setS, Stm.runs, List.append_nil, List.length_nil, Nat.add_zero, List.take_append_drop]
  | k, v :: vs, E, h => by
    rw [List.length_cons] at h
    rw [setS, Stm.runs, Stm.run, setS_runs (k + 1) vs _ (by show k + 1 + vs.length ≤ (E.regs.set k ((Exp.num v).val E)).length; rw [List.length_set]; omega)]
    show (E.regs.set k v).take (k + 1) ++ vs ++ (E.regs.set k v).drop (k + 1 + vs.length) = _
    have hk : k < E.regs.length := by omega
    have e1 : (E.regs.set k v).take (k + 1) = E.regs.take k ++ [v] := by
      rw [List.take_set, List.take_succ, List.getElem?_eq_getElem hk, Option.toList_some, List.set_append_right _ _ (by rw [List.length_take]; omega), List.length_take, Nat.min_eq_left (by omega), Nat.sub_self]
      rfl
    have e2 : (E.regs.set k v).drop (k + 1 + vs.length) = E.regs.drop (k + (v :: vs).length) := by
      rw [List.drop_set_of_lt (by omega), List.length_cons]
      congr 1
      omega
    rw [e1, e2]
    simp
theorem setS_runs0 {vs : List Int} {E : Env} (h : vs.length = E.regs.length) : (Stm.runs (setS 0 vs) E).regs = vs := by
  rw [setS_runs 0 vs E (by omega), List.take_zero, List.nil_append, Nat.zero_add, h, List.drop_length, List.append_nil]
/-- it may be shown -/
theorem rp_str {k z : Nat} {x : Str} (h : PyData.strOk x = true ∧ (x.cps.toList.all fun c => decide (c < 16 ^ 8)) = true) (hz : 10 * x.length + 4 ≤ z) : Rp k z (.str x) := ⟨rfl, by
  have h2 : ∀ c ∈ x.cps.toList, c < 16 ^ 8 := fun c hc => by simpa using (List.all_eq_true.mp h.2) c hc
  cases k <;> exact ⟨h.1, h2⟩, hz⟩
theorem rp_deep {k z : Nat} {p : PV} (h : Rp k z p) : Rp (k + 1) z p := ⟨h.own, by
  have : ∀ {k : Nat} {d : PyData}, good k d → good (k + 1) d := by
    intro k
    induction k with
    | zero => intro d h; cases d <;> first | exact h | exact h.elim
    | succ k ih =>
      intro d h
      cases d with
      | list xs => exact fun x hx => ih (h x hx)
      | tuple xs => exact fun x hx => ih (h x hx)
      | _ => exact h
  exact this h.gd, h.nz⟩
theorem rp_deepN {k z : Nat} {p : PV} (h : Rp k z p) : ∀ {j : Nat}, k ≤ j → Rp j z p := fun {j} hj => by
  induction hj with
  | refl => exact h
  | step _ ih => exact rp_deep ih
def rz : Nat → Nat
  | 0 => 3 + 3 * 1923
  | d + 1 => 3 + 3 * (rz d + 2)
theorem rz_ge : ∀ d, 1921 ≤ rz d
  | 0 => by decide
  | d + 1 => by have := rz_ge d; unfold rz; omega
theorem rp_num {k z : Nat} {i : Int} (h : 0 ≤ i ∧ i < 1000000) (hz : 1921 ≤ z) : Rp k z (.int i) := Rp.int (by omega) (by omega) hz
theorem dv_len (w : Dv) : 10 * (dvS w).length + 4 ≤ 100 := by cases w <;> decide +kernel
theorem op_len (w : Op) : 10 * (opS w).length + 4 ≤ 100 := by cases w <;> decide +kernel
theorem Exp.rp : ∀ {d : Nat} {e : Exp}, e.ok → e.depth ≤ d → Rp (d + 1) (rz d) e.pv
  | d, .num i, h, _ => rp_num h (rz_ge d)
  | d, .reg i, h, _ => by
    have h : i < 10 := h
    have : Rp (0 + 1) (rz 0) (Exp.reg i).pv := Rp.tup (k := 0) (z := 1921) (n := 3) (.cons (rp_str (by decide +kernel) (by decide +kernel)) (.cons (Rp.int (by omega) (by omega) (by decide)) .nil)) (by simp)
    exact (rp_deepN this (by omega)).up (rz_mono d)
  | d, .inp i, h, _ => by
    have h : i < 6 := h
    have : Rp (0 + 1) (rz 0) (Exp.inp i).pv := Rp.tup (k := 0) (z := 1921) (n := 3) (.cons (rp_str (by decide +kernel) (by decide +kernel)) (.cons (Rp.int (by omega) (by omega) (by decide)) .nil)) (by simp)
    exact (rp_deepN this (by omega)).up (rz_mono d)
  | d, .ev w, h, _ => by
    have : Rp (0 + 1) (rz 0) (Exp.ev w).pv := Rp.tup (k := 0) (z := 1921) (n := 3) (.cons (rp_str (by cases w <;> decide +kernel) (by cases w <;> decide +kernel)) .nil) (by simp)
    exact (rp_deepN this (by omega)).up (rz_mono d)
  | 0, .dv w a m, _, hd => absurd hd (Nat.not_succ_le_zero _)
  | 0, .op w a b, _, hd => absurd hd (Nat.not_succ_le_zero _)
  | d + 1, .dv w a m, h, hd => by
    obtain ⟨ha, h1, h2⟩ : a.ok ∧ 1 ≤ m ∧ m < 1000000 := h
    have := Exp.rp (d := d) ha (Nat.le_of_succ_le_succ hd)
    have hz := rz_ge d
    exact Rp.tup (k := d + 1) (z := rz d) (n := 3) (.cons (rp_str (by cases w <;> decide +kernel) (by have := dv_len w; omega)) (.cons this (.cons (rp_num (by omega) hz) .nil))) (by simp)
  | d + 1, .op w a b, h, hd => by
    obtain ⟨ha, hb⟩ : a.ok ∧ b.ok := h
    have hd : max a.depth b.depth + 1 ≤ d + 1 := hd
    have h1 := Exp.rp (d := d) ha (by omega)
    have h2 := Exp.rp (d := d) hb (by omega)
    have hz := rz_ge d
    exact Rp.tup (k := d + 1) (z := rz d) (n := 3) (.cons (rp_str (by cases w <;> decide +kernel) (by have := op_len w; omega)) (.cons h1 (.cons h2 .nil))) (by simp)
where
  rz_mono : ∀ d, rz 0 ≤ rz d
    | 0 => Nat.le_refl _
    | d + 1 => by
      have := rz_mono d
      show rz 0 ≤ 3 + 3 * (rz d + 2)
      omega
theorem rpOk_ints {ns : List Int} (h : ∀ n ∈ ns, 0 ≤ n ∧ n < 1000000) (hl : ns.length ≤ 1000) : rpOk (.tup (iL ns)) ∧ rpOk (.lst (iL ns)) :=
  have h1 : ∀ x ∈ iL ns, Rp 0 1921 x := Rp.ofI (fun n hn => by have := h n hn; omega) (Nat.le_refl _)
  ⟨(Rp.tup h1 (n := 1000) (by rw [List.length_map]; exact hl)).ok (by decide) (by decide), (Rp.lst h1 (n := 1000) (by rw [List.length_map]; exact hl)).ok (by decide) (by decide)⟩
theorem exp_blw (d : Nat) : ∀ e : Exp, blw d e.pv = true
  | .num _ => rfl
  | .reg _ => rfl
  | .inp _ => rfl
  | .ev _ => rfl
  | .dv w a n => by
    show (true && (blw d a.pv && (true && true))) = true
    rw [exp_blw d a]; rfl
  | .op w a b => by
    show (true && (blw d a.pv && (blw d b.pv && true))) = true
    rw [exp_blw d a, exp_blw d b]; rfl
mutual
theorem stm_blw (d : Nat) : ∀ s : Stm, blw d s.pv = true
  | .set r e => by rw [Stm.pv_set]; show (true && (true && (blw d e.pv && true))) = true; rw [exp_blw]; rfl
  | .ite c a b => by
    rw [Stm.pv_ite]
    show (true && (blw d c.pv && (blws d (Stm.pvs a) && (blws d (Stm.pvs b) && true)))) = true
    rw [exp_blw, stm_blws d a, stm_blws d b]; rfl
  | .rep c a => by
    rw [Stm.pv_rep]
    show (true && (blw d c.pv && (blws d (Stm.pvs a) && true))) = true
    rw [exp_blw, stm_blws d a]; rfl
theorem stm_blws (d : Nat) : ∀ ss : List Stm, blws d (Stm.pvs ss) = true
  | [] => by rw [Stm.pvs]; rfl
  | s :: ss => by rw [Stm.pvs, blws, stm_blw d s, stm_blws d ss]; rfl
end
/-- lists that may be shown, their sizes together -/
structure Rps (k z : Nat) (xs : List PV) : Prop where
  own : nowns xs = true
  gd : ∀ d ∈ dats xs, good k d
  nz : nzAll (dats xs) ≤ z
theorem Rps.nil {k z : Nat} : Rps k z [] := ⟨rfl, (fun _ h => nomatch h), Nat.zero_le _⟩
theorem Rps.cons {k y z n : Nat} {p : PV} {xs : List PV} (h : Rp k y p) (hs : Rps k z xs) (hn : y + 2 + z ≤ n) : Rps k n (p :: xs) := ⟨by rw [nowns, h.own, hs.own]; rfl, fun d hd => by
  rw [dats] at hd
  rcases List.mem_cons.mp hd with rfl | hd
  · exact h.gd
  · exact hs.gd d hd, by
  have h1 := h.nz
  have h2 := hs.nz
  rw [dats, nzAll]
  omega⟩
theorem Rps.tup {k z n : Nat} {xs : List PV} (h : Rps k z xs) (hn : 3 + z ≤ n) : Rp (k + 1) n (.tup xs) := ⟨by rw [nown, h.own], h.gd, by
  have := h.nz
  rw [dat, L3.nz]
  omega⟩
theorem Rps.lst {k z n : Nat} {xs : List PV} (h : Rps k z xs) (hn : 3 + z ≤ n) : Rp (k + 1) n (.lst xs) := ⟨by rw [nown, h.own], h.gd, by
  have := h.nz
  rw [dat, L3.nz]
  omega⟩
theorem Rps.all {k z n : Nat} {xs : List PV} (h : ∀ x ∈ xs, Rp k z x) (hn : xs.length * (z + 2) ≤ n) : Rps k n xs := by
  obtain ⟨h1, h2, h3⟩ := Rp.all h
  exact ⟨h1, h2, Nat.le_trans h3 hn⟩
def rt : Nat → Nat
  | 0 => 2012
  | d + 1 => 61 + 2 * (rt d + 2)
theorem rt_ge : ∀ d, 2012 ≤ rt d
  | 0 => by decide
  | d + 1 => by have := rt_ge d; unfold rt; omega
theorem ev_len (w : Ev) : 10 * (evS w).length + 4 ≤ 100 := by cases w <;> decide +kernel
theorem dv_len5 (w : Dv) : 10 * (dvS w).length + 4 ≤ 54 := by cases w <;> decide +kernel
theorem op_len5 (w : Op) : 10 * (opS w).length + 4 ≤ 54 := by cases w <;> decide +kernel
theorem Exp.rpt : ∀ {d : Nat} {e : Exp}, e.ok → e.depth ≤ d → Rp (d + 1) (rt d) e.pv
  | d, .num i, h, _ => rp_num h (by have := rt_ge d; omega)
  | d, .reg i, h, _ => by
    have h : i < 10 := h
    have hz := rt_ge d
    exact Rps.tup (z := 2009) (k := d) (.cons (rp_str (z := 84) (by decide +kernel) (by decide +kernel)) (.cons (Rp.int (by omega) (by omega) (Nat.le_refl _)) (Rps.nil (z := 0)) (Nat.le_refl _)) (by decide)) (by omega)
  | d, .inp i, h, _ => by
    have h : i < 6 := h
    have hz := rt_ge d
    exact Rps.tup (z := 2009) (k := d) (.cons (rp_str (z := 84) (by decide +kernel) (by decide +kernel)) (.cons (Rp.int (by omega) (by omega) (Nat.le_refl _)) (Rps.nil (z := 0)) (Nat.le_refl _)) (by decide)) (by omega)
  | d, .ev w, h, _ => by
    have hz := rt_ge d
    exact Rps.tup (z := 102) (k := d) (.cons (rp_str (z := 100) (by cases w <;> decide +kernel) (ev_len w)) (Rps.nil (z := 0)) (by decide)) (by omega)
  | 0, .dv w a m, _, hd => absurd hd (Nat.not_succ_le_zero _)
  | 0, .op w a b, _, hd => absurd hd (Nat.not_succ_le_zero _)
  | d + 1, .dv w a m, h, hd => by
    obtain ⟨ha, h1, h2⟩ : a.ok ∧ 1 ≤ m ∧ m < 1000000 := h
    have := Exp.rpt (d := d) ha (Nat.le_of_succ_le_succ hd)
    have hz := rt_ge d
    exact Rps.tup (z := 54 + 2 + (rt d + 2 + (1921 + 2 + 0))) (.cons (rp_str (by cases w <;> decide +kernel) (dv_len5 w)) (.cons this (.cons (rp_num (by omega) (Nat.le_refl _)) (Rps.nil (z := 0)) (Nat.le_refl _)) (Nat.le_refl _)) (Nat.le_refl _)) (by show _ ≤ 61 + 2 * (rt d + 2); omega)
  | d + 1, .op w a b, h, hd => by
    obtain ⟨ha, hb⟩ : a.ok ∧ b.ok := h
    have hd : max a.depth b.depth + 1 ≤ d + 1 := hd
    have h1 := Exp.rpt (d := d) ha (by omega)
    have h2 := Exp.rpt (d := d) hb (by omega)
    exact Rps.tup (z := 54 + 2 + (rt d + 2 + (rt d + 2 + 0))) (.cons (rp_str (by cases w <;> decide +kernel) (op_len5 w)) (.cons h1 (.cons h2 (Rps.nil (z := 0)) (Nat.le_refl _)) (Nat.le_refl _)) (Nat.le_refl _)) (by show _ ≤ 61 + 2 * (rt d + 2); omega)
mutual
/-- what is inside has at most three statements -/
def Stm.slim : Stm → Prop
  | .set _ _ => True
  | .ite _ a b => (a.length ≤ 3 ∧ Stm.slims a) ∧ b.length ≤ 3 ∧ Stm.slims b
  | .rep _ a => a.length ≤ 3 ∧ Stm.slims a
def Stm.slims : List Stm → Prop
  | [] => True
  | s :: r => s.slim ∧ Stm.slims r
end
theorem Stm.slims_all : ∀ {ss : List Stm}, Stm.slims ss ↔ ∀ s ∈ ss, s.slim
  | [] => ⟨(fun _ _ h => nomatch h), fun _ => by rw [Stm.slims]; trivial⟩
  | s :: ss => by
    rw [Stm.slims, Stm.slims_all]
    simp
def sz (n : Nat) : Nat → Nat
  | 0 => 1968 + rt n
  | d + 1 => 90 + rt n + 2 * (3 + 3 * (sz n d + 2) + 2)
theorem sz_ge (n : Nat) : ∀ d, 1968 + rt n ≤ sz n d
  | 0 => Nat.le_refl _
  | d + 1 => by have := sz_ge n d; unfold sz; omega
mutual
theorem Stm.rp {n : Nat} : ∀ {d : Nat} {s : Stm}, Stm.fits n d s → s.slim → Rp (n + 2 + 2 * d) (sz n d) s.pv
  | d, .set r e, h, _ => by
    have h : r < 10 ∧ e.ok ∧ e.depth ≤ n := by cases d <;> exact h
    rw [Stm.pv_set]
    have h1 := rp_deepN (Exp.rpt h.2.1 h.2.2) (show n + 1 ≤ n + 1 + 2 * d by omega)
    have hz := sz_ge n d
    have := Rps.tup (n := sz n d) (k := n + 1 + 2 * d) (z := 34 + 2 + (1921 + 2 + (rt n + 2 + 0))) (.cons (rp_str (x := "set") (by decide +kernel) (by decide +kernel)) (.cons (Rp.int (i := (r : Nat)) (by omega) (by omega) (Nat.le_refl _)) (.cons h1 (Rps.nil (z := 0)) (Nat.le_refl _)) (Nat.le_refl _)) (Nat.le_refl _)) (by omega)
    rw [show n + 2 + 2 * d = n + 1 + 2 * d + 1 by omega]
    exact this
  | 0, .ite _ _ _, h, _ => by exact h.elim
  | 0, .rep _ _, h, _ => by exact h.elim
  | d + 1, .ite c a b, h, hs => by
    have h : (c.ok ∧ c.depth ≤ n) ∧ Stm.fitss n d a ∧ Stm.fitss n d b := h
    rw [Stm.slim] at hs
    rw [Stm.pv_ite]
    have h1 := rp_deepN (Exp.rpt h.1.1 h.1.2) (show n + 1 ≤ n + 2 + 2 * d + 1 by omega)
    have ha := Rps.tup (Stm.rps h.2.1 hs.1.2 (m := 3) hs.1.1) (Nat.le_refl _)
    have hb := Rps.tup (Stm.rps h.2.2 hs.2.2 (m := 3) hs.2.1) (Nat.le_refl _)
    have := Rps.tup (n := sz n (d + 1)) (k := n + 2 + 2 * d + 1) (.cons (rp_str (z := 24) (x := "if") (by decide +kernel) (by decide +kernel)) (.cons h1 (.cons ha (.cons hb (Rps.nil (z := 0)) (Nat.le_refl _)) (Nat.le_refl _)) (Nat.le_refl _)) (Nat.le_refl _)) (by show _ ≤ 90 + rt n + 2 * (3 + 3 * (sz n d + 2) + 2); omega)
    rw [show n + 2 + 2 * (d + 1) = n + 2 + 2 * d + 1 + 1 by omega]
    exact this
  | d + 1, .rep c a, h, hs => by
    have h : (c.ok ∧ c.depth ≤ n) ∧ Stm.fitss n d a := h
    rw [Stm.slim] at hs
    rw [Stm.pv_rep]
    have h1 := rp_deepN (Exp.rpt h.1.1 h.1.2) (show n + 1 ≤ n + 2 + 2 * d + 1 by omega)
    have ha := Rps.tup (Stm.rps h.2 hs.2 (m := 3) hs.1) (Nat.le_refl _)
    have := Rps.tup (n := sz n (d + 1)) (k := n + 2 + 2 * d + 1) (.cons (rp_str (z := 64) (x := "repeat") (by decide +kernel) (by decide +kernel)) (.cons h1 (.cons ha (Rps.nil (z := 0)) (Nat.le_refl _)) (Nat.le_refl _)) (Nat.le_refl _)) (by show _ ≤ 90 + rt n + 2 * (3 + 3 * (sz n d + 2) + 2); omega)
    rw [show n + 2 + 2 * (d + 1) = n + 2 + 2 * d + 1 + 1 by omega]
    exact this
theorem Stm.rps {n : Nat} : ∀ {d : Nat} {ss : List Stm} {m : Nat}, Stm.fitss n d ss → Stm.slims ss → ss.length ≤ m → Rps (n + 2 + 2 * d) (m * (sz n d + 2)) (Stm.pvs ss)
  | _, [], _, _, _, _ => by rw [Stm.pvs]; exact Rps.nil
  | d, s :: r, m, h, hs, hl => by
    have h : Stm.fits n d s ∧ Stm.fitss n d r := by cases d <;> exact h
    rw [Stm.slims] at hs
    rw [List.length_cons] at hl
    rw [Stm.pvs]
    have h1 := Stm.rp h.1 hs.1
    have h2 := Stm.rps (m := m - 1) h.2 hs.2 (by omega)
    refine Rps.cons h1 h2 ?_
    have : m * (sz n d + 2) = (m - 1) * (sz n d + 2) + (sz n d + 2) := by
      conv => lhs; rw [show m = (m - 1) + 1 by omega, Nat.succ_mul]
    omega
end
end SP

/-! talks: what is said. -/
namespace SP
open PySem L5 L3
mutual
theorem Stm.fits_mono {n m : Nat} (h : n ≤ m) : ∀ {d : Nat} {s : Stm}, Stm.fits n d s → Stm.fits m d s
  | d, .set r e, k => by
    have k : r < 10 ∧ e.ok ∧ e.depth ≤ n := by cases d <;> exact k
    have k2 : r < 10 ∧ e.ok ∧ e.depth ≤ m := ⟨k.1, k.2.1, Nat.le_trans k.2.2 h⟩
    cases d <;> exact k2
  | 0, .ite _ _ _, k => by exact k.elim
  | 0, .rep _ _, k => by exact k.elim
  | d + 1, .ite c a b, k => by
    have k : (c.ok ∧ c.depth ≤ n) ∧ Stm.fitss n d a ∧ Stm.fitss n d b := k
    exact ⟨⟨k.1.1, Nat.le_trans k.1.2 h⟩, Stm.fitss_mono h k.2.1, Stm.fitss_mono h k.2.2⟩
  | d + 1, .rep c a, k => by
    have k : (c.ok ∧ c.depth ≤ n) ∧ Stm.fitss n d a := k
    exact ⟨⟨k.1.1, Nat.le_trans k.1.2 h⟩, Stm.fitss_mono h k.2⟩
theorem Stm.fitss_mono {n m : Nat} (h : n ≤ m) : ∀ {d : Nat} {ss : List Stm}, Stm.fitss n d ss → Stm.fitss m d ss
  | d, [], _ => by cases d <;> trivial
  | d, s :: r, k => by
    have k : Stm.fits n d s ∧ Stm.fitss n d r := by cases d <;> exact k
    have k2 : Stm.fits m d s ∧ Stm.fitss m d r := ⟨Stm.fits_mono h k.1, Stm.fitss_mono h k.2⟩
    cases d <;> exact k2
end
/-- a program of a law -/
structure Prg.fine (p : Prg) : Prop where
  hf : Stm.fitss 2 2 p.hear
  hs : Stm.slims p.hear
  hl : p.hear.length ≤ 4
  sf : Stm.fitss 2 2 p.speak
  ss : Stm.slims p.speak
  sl : p.speak.length ≤ 4
  ok : p.say.ok
  dp : p.say.depth ≤ 4
theorem Prg.fine.fits {p : Prg} (h : p.fine) : p.fits 4 2 := ⟨Stm.fitss_mono (by decide) h.hf, Stm.fitss_mono (by decide) h.sf, h.ok, h.dp⟩
theorem Prg.fine.rp {p : Prg} (h : p.fine) : Rp 10 3500000 p.pv := by
  have h1 := Rps.tup (Stm.rps h.hf h.hs (m := 4) h.hl) (Nat.le_refl _)
  have h2 := Rps.tup (Stm.rps h.sf h.ss (m := 4) h.sl) (Nat.le_refl _)
  have h3 := rp_deepN (Exp.rpt h.ok h.dp) (show 5 ≤ 9 by decide)
  refine Rps.tup (.cons h1 (.cons h2 (.cons h3 (Rps.nil (z := 0)) (Nat.le_refl _)) (Nat.le_refl _)) (Nat.le_refl _)) ?_
  have z22 : sz 2 2 = 426081 := by decide
  have r4 : rt 4 = 33167 := by decide
  rw [z22, r4]
  decide
structure Tk where
  size : Int
  prgs : List Prg
  order : List Nat
@[reducible] def Tk.pv (t : Tk) : PV := .tup [.int t.size, .tup (t.prgs.map Prg.pv), .tup (t.order.map fun o => PV.int (o : Nat))]
structure Tk.ok (t : Tk) : Prop where
  s0 : 2 ≤ t.size
  s1 : t.size ≤ 9
  p0 : 2 ≤ t.prgs.length
  p1 : t.prgs.length ≤ 4
  pf : ∀ p ∈ t.prgs, p.fine
  o0 : ∀ o ∈ t.order, o < t.prgs.length
  o1 : t.order.length ≤ 8
/-- inputs of a talk -/
@[reducible] def insP (is : List (List Int)) : List PV := is.map fun i => PV.tup (iL i)
structure insOk (n : Nat) (is : List (List Int)) : Prop where
  len : is.length = n
  few : ∀ i ∈ is, i.length ≤ 6 ∧ ∀ x ∈ i, 0 ≤ x ∧ x < 1000000
theorem rp_nats {xs : List Nat} (h : ∀ x ∈ xs, x < 1000000) (hl : xs.length ≤ 1000) : Rp 1 1923003 (.tup (xs.map fun o => PV.int (o : Nat))) := by
  have h1 : ∀ x ∈ (xs.map fun o => PV.int (o : Nat)), Rp 0 1921 x := fun x hx => by
    obtain ⟨o, ho, rfl⟩ := List.mem_map.mp hx
    have := h o ho
    exact Rp.int (by omega) (by omega) (Nat.le_refl _)
  exact Rps.tup (Rps.all h1 (n := 1923000) (by rw [List.length_map]; omega)) (by decide)
/-! ### a station: its program, its state -/
abbrev Sn := Prg × Env
def sayE (s : Sn) (st t : Nat) : Env := Stm.runs s.1.speak { s.2 with ev := evs 0 (st : Nat) (t : Nat) }
def sayL (s : Sn) (st t : Nat) (z : Int) : Int := s.1.say.val (sayE s st t) % z
def heaE (s : Sn) (l : Int) (st t : Nat) : Env := Stm.runs s.1.hear { s.2 with ev := evs l (st : Nat) (t : Nat) }
/-- all stations hear a letter, but the one that says it -/
def hearAll (l : Int) (st t : Nat) (Ss : List Sn) : List Sn := Ss.mapIdx fun i s => if i = st then s else (s.1, heaE s l st t)
def turnS (z : Int) (st t : Nat) (Ss : List Sn) : List Sn × Int :=
  match Ss[st]? with
  | none => (Ss, 0)
  | some s => (hearAll (sayL s st t z) st t (Ss.set st (s.1, sayE s st t)), sayL s st t z)
/-- the letters that are said from a turn on -/
def saidS (z : Int) : List Nat → Nat → List Sn → List Int
  | [], _, _ => []
  | st :: r, t, Ss => (turnS z st t Ss).2 :: saidS z r (t + 1) (turnS z st t Ss).1
def freshS (ps : List Prg) (is : List (List Int)) : List Sn := ps.zipWith (fun p i => (p, ⟨List.replicate 10 0, i, evs 0 0 0⟩)) is
/-- the clean transcript -/
def Tk.clean (t : Tk) (is : List (List Int)) : List Int := saidS t.size t.order 0 (freshS t.prgs is)
end SP

/-! talks, turn by turn. -/
namespace SP
open PySem L5 L3
structure Sn.good (s : Sn) : Prop where
  fine : s.1.fine
  len : s.2.regs.length = 10
  few : s.2.inps.length ≤ 6
  regs : ∀ x ∈ s.2.regs, 0 ≤ x ∧ x < 1000000
  inps : ∀ x ∈ s.2.inps, 0 ≤ x ∧ x < 1000000
theorem Sn.good.env {s : Sn} (h : Sn.good s) {l st t : Int} (hl : 0 ≤ l ∧ l < 1000000) (hs : 0 ≤ st ∧ st < 1000000) (ht : 0 ≤ t ∧ t < 1000000) : ({ s.2 with ev := evs l st t } : Env).ok :=
  ⟨h.len, h.few, h.regs, h.inps, fun w => by cases w <;> assumption⟩
theorem Sn.good.of {s : Sn} (h : Sn.good s) {E : Env} (hE : E.ok) (l : E.inps = s.2.inps) : Sn.good (s.1, E) := ⟨h.fine, hE.len, hE.few, hE.regs, hE.inps⟩
theorem Sn.good.say {s : Sn} (h : Sn.good s) {st t : Nat} (hs : st < 1000000) (ht : t < 1000000) : (sayE s st t).ok ∧ Sn.good (s.1, sayE s st t) := by
  obtain ⟨o, l⟩ := Stm.runs_ok h.fine.fits.2.1 (h.env (l := 0) (st := st) (t := t) (by decide) (by omega) (by omega))
  exact ⟨o, h.of o l.inps⟩
theorem Sn.good.hea {s : Sn} (h : Sn.good s) {l : Int} {st t : Nat} (hl : 0 ≤ l ∧ l < 1000000) (hs : st < 1000000) (ht : t < 1000000) : (heaE s l st t).ok ∧ Sn.good (s.1, heaE s l st t) := by
  obtain ⟨o, l⟩ := Stm.runs_ok h.fine.fits.1 (h.env hl (st := st) (t := t) (by omega) (by omega))
  exact ⟨o, h.of o l.inps⟩
theorem sayL_ok {s : Sn} (h : Sn.good s) {st t : Nat} {z : Int} (hz : 2 ≤ z ∧ z ≤ 9) (hs : st < 1000000) (ht : t < 1000000) : 0 ≤ sayL s st t z ∧ sayL s st t z < z :=
  ⟨Int.emod_nonneg _ (by omega), Int.emod_lt_of_pos _ (by omega)⟩
/-- the first i stations have heard -/
def hearUp (l : Int) (st t i : Nat) (Ss : List Sn) : List Sn := Ss.mapIdx fun j s => if j < i ∧ j ≠ st then (s.1, heaE s l st t) else s
theorem hearUp_get (l : Int) (st t i : Nat) (Ss : List Sn) (j : Nat) : (hearUp l st t i Ss)[j]? = Ss[j]?.map fun s => if j < i ∧ j ≠ st then (s.1, heaE s l st t) else s := List.getElem?_mapIdx
theorem hearUp_len (l : Int) (st t i : Nat) (Ss : List Sn) : (hearUp l st t i Ss).length = Ss.length := List.length_mapIdx
theorem hearUp_zero (l : Int) (st t : Nat) (Ss : List Sn) : hearUp l st t 0 Ss = Ss := by
  apply List.ext_getElem?
  intro j
  rw [hearUp_get]
  cases Ss[j]? with
  | none => rfl
  | some s => show some (if j < 0 ∧ j ≠ st then _ else s) = some s; rw [if_neg (by omega)]
theorem hearUp_skip (l : Int) (st t : Nat) (Ss : List Sn) : hearUp l st t (st + 1) Ss = hearUp l st t st Ss := by
  apply List.ext_getElem?
  intro j
  rw [hearUp_get, hearUp_get]
  cases Ss[j]? with
  | none => rfl
  | some s =>
    show some (if _ then _ else _) = some (if _ then _ else _)
    by_cases h : j < st
    · rw [if_pos (by omega), if_pos (by omega)]
    · rw [if_neg (by omega), if_neg (by omega)]
theorem hearUp_succ {l : Int} {st t i : Nat} {Ss : List Sn} {s : Sn} (h : Ss[i]? = some s) (hi : i ≠ st) : hearUp l st t (i + 1) Ss = (hearUp l st t i Ss).set i (s.1, heaE s l st t) := by
  have hlt := (List.getElem?_eq_some_iff.mp h).1
  apply List.ext_getElem?
  intro j
  rw [List.getElem?_set, hearUp_get, hearUp_get]
  by_cases e : i = j
  · subst e
    rw [if_pos rfl, if_pos (by rw [hearUp_len]; exact hlt), h]
    show some (if _ then _ else _) = _
    rw [if_pos (by omega)]
  · rw [if_neg e]
    cases Ss[j]? with
    | none => rfl
    | some s =>
      show some (if _ then _ else _) = some (if _ then _ else _)
      by_cases h : j < i ∧ j ≠ st
      · rw [if_pos (by omega), if_pos h]
      · rw [if_neg (by omega), if_neg h]
theorem hearUp_at {l : Int} {st t i : Nat} {Ss : List Sn} {s : Sn} (h : Ss[i]? = some s) : (hearUp l st t i Ss)[i]? = some s := by
  rw [hearUp_get, h]
  show some (if _ then _ else _) = _
  rw [if_neg (by omega)]
theorem hearUp_all {l : Int} {st t i : Nat} {Ss : List Sn} (h : Ss.length ≤ i) : hearUp l st t i Ss = hearAll l st t Ss := by
  apply List.ext_getElem?
  intro j
  rw [hearUp_get]
  unfold hearAll
  rw [List.getElem?_mapIdx]
  cases e : Ss[j]? with
  | none => rfl
  | some s =>
    have := (List.getElem?_eq_some_iff.mp e).1
    show some (if _ then _ else _) = some (if _ then _ else _)
    by_cases h : j = st
    · rw [if_neg (by omega), if_pos h]
    · rw [if_pos (by omega), if_neg h]
theorem hearUp_good {l : Int} {st t i : Nat} {Ss : List Sn} (h : ∀ s ∈ Ss, Sn.good s) (hl : 0 ≤ l ∧ l < 1000000) (hs : st < 1000000) (ht : t < 1000000) : ∀ s ∈ hearUp l st t i Ss, Sn.good s := fun s hs' => by
  obtain ⟨j, hj, e⟩ := List.mem_iff_getElem.mp hs'
  have := List.getElem?_eq_getElem hj
  rw [e, hearUp_get] at this
  cases e2 : Ss[j]? with
  | none => rw [e2] at this; cases this
  | some s' =>
    rw [e2] at this
    have g := h s' (List.mem_of_getElem? e2)
    have this : some (if j < i ∧ j ≠ st then (s'.1, heaE s' l st t) else s') = some s := this
    split at this
    · cases this; exact (g.hea hl hs ht).2
    · cases this; exact g
theorem turnS_eq {z : Int} {st t : Nat} {Ss : List Sn} {s : Sn} (h : Ss[st]? = some s) : turnS z st t Ss = (hearAll (sayL s st t z) st t (Ss.set st (s.1, sayE s st t)), sayL s st t z) := by
  unfold turnS
  rw [h]
theorem freshS_get {ps : List Prg} {is : List (List Int)} {i : Nat} {p : Prg} {x : List Int} (h1 : ps[i]? = some p) (h2 : is[i]? = some x) : (freshS ps is)[i]? = some (p, ⟨List.replicate 10 0, x, evs 0 0 0⟩) := by
  unfold freshS
  rw [List.getElem?_zipWith, h1, h2]
theorem fresh_good {p : Prg} {x : List Int} (h : p.fine) (hx : x.length ≤ 6 ∧ ∀ v ∈ x, 0 ≤ v ∧ v < 1000000) : Sn.good (p, ⟨List.replicate 10 0, x, evs 0 0 0⟩) := ⟨h, rfl, hx.1, (fun v hv => by rw [(List.mem_replicate.mp hv).2]; decide), hx.2⟩
theorem freshS_len {ps : List Prg} {is : List (List Int)} (h : is.length = ps.length) : (freshS ps is).length = ps.length := by
  unfold freshS
  rw [List.length_zipWith, h, Nat.min_self]
end SP

/-! beginnings of an order; alike stations; the size of what is shown. -/
namespace SP
open PySem L5 L3
theorem saidS_take (z : Int) : ∀ (k : Nat) (o : List Nat) (t : Nat) (Ss : List Sn), saidS z (o.take k) t Ss = (saidS z o t Ss).take k
  | 0, o, t, Ss => by rw [List.take_zero, List.take_zero, saidS]
  | k + 1, [], t, Ss => by rw [List.take_nil, saidS, List.take_nil]
  | k + 1, st :: r, t, Ss => by rw [List.take_succ_cons, saidS, saidS, List.take_succ_cons, saidS_take z k r]
def Tk.pre (t : Tk) (k : Nat) : Tk := { t with order := t.order.take k }
theorem Tk.pre_clean (t : Tk) (is : List (List Int)) (k : Nat) : (t.pre k).clean is = (t.clean is).take k := saidS_take _ _ _ _ _
theorem Tk.pre_ok {t : Tk} (h : t.ok) (k : Nat) : (t.pre k).ok := ⟨h.s0, h.s1, h.p0, h.p1, h.pf, fun o ho => h.o0 o (List.mem_of_mem_take ho), by
  have := h.o1
  show (t.order.take k).length ≤ 8
  rw [List.length_take]
  omega⟩
theorem saidS_len (z : Int) : ∀ (o : List Nat) (t : Nat) (Ss : List Sn), (saidS z o t Ss).length = o.length
  | [], _, _ => rfl
  | st :: r, t, Ss => by rw [saidS, List.length_cons, List.length_cons, saidS_len z r]
theorem Tk.clean_len (t : Tk) (is : List (List Int)) : (t.clean is).length = t.order.length := saidS_len _ _ _ _
theorem turnS_good {z : Int} (hz : 2 ≤ z ∧ z ≤ 9) {st t : Nat} {Ss : List Sn} (h : ∀ s ∈ Ss, Sn.good s) (hs : st < 1000000) (ht : t < 1000000) : (∀ s ∈ (turnS z st t Ss).1, Sn.good s) ∧ 0 ≤ (turnS z st t Ss).2 ∧ (turnS z st t Ss).2 < 1000000 := by
  cases e : Ss[st]? with
  | none => unfold turnS; rw [e]; exact ⟨h, Int.le_refl 0, show (0 : Int) < 1000000 by decide⟩
  | some s =>
    rw [turnS_eq e]
    have hg := h s (List.mem_of_getElem? e)
    obtain ⟨l0, l1⟩ := sayL_ok hg (z := z) hz hs ht
    refine ⟨?_, l0, by show sayL s st t z < 1000000; omega⟩
    rw [← hearUp_all (i := (Ss.set st (s.1, sayE s st t)).length) (Nat.le_refl _)]
    exact hearUp_good (fun s' hs' => by
      rcases List.mem_or_eq_of_mem_set hs' with h1 | rfl
      · exact h s' h1
      · exact (hg.say hs ht).2) ⟨l0, by omega⟩ hs ht
theorem saidS_num {z : Int} (hz : 2 ≤ z ∧ z ≤ 9) : ∀ (o : List Nat) (t : Nat) (Ss : List Sn), (∀ s ∈ Ss, Sn.good s) → (∀ x ∈ o, x < 1000000) → t + o.length < 1000000 → ∀ x ∈ saidS z o t Ss, 0 ≤ x ∧ x < 1000000
  | [], _, _, _, _, _ => fun x hx => nomatch hx
  | st :: r, t, Ss, hg, ho, ht => by
    have ht : t + (r.length + 1) < 1000000 := ht
    obtain ⟨g, l⟩ := turnS_good hz hg (ho st (List.mem_cons_self ..)) (t := t) (by omega)
    intro x hx
    rw [saidS] at hx
    rcases List.mem_cons.mp hx with rfl | hx
    · exact l
    · exact saidS_num hz r (t + 1) _ g (fun x hx => ho x (List.mem_cons_of_mem _ hx)) (by omega) x hx
theorem fresh_all {ps : List Prg} {is : List (List Int)} (hp : ∀ p ∈ ps, p.fine) (hi : insOk ps.length is) : ∀ s ∈ freshS ps is, Sn.good s := fun s hs => by
  obtain ⟨j, hj, e⟩ := List.mem_iff_getElem.mp hs
  have hil := hi.len
  rw [freshS_len hil] at hj
  have h1 : ps[j]? = some ps[j] := List.getElem?_eq_getElem hj
  have h2 : is[j]? = some is[j] := List.getElem?_eq_getElem (by omega)
  have := freshS_get h1 h2
  rw [List.getElem?_eq_getElem (by rw [freshS_len hil]; exact hj), e] at this
  rw [Option.some.inj this]
  exact fresh_good (hp _ (List.getElem_mem _)) (hi.few _ (List.getElem_mem _))
theorem Tk.clean_num {t : Tk} (h : t.ok) {is : List (List Int)} (hi : insOk t.prgs.length is) : ∀ x ∈ t.clean is, 0 ≤ x ∧ x < 1000000 :=
  saidS_num ⟨h.s0, h.s1⟩ _ _ _ (fresh_all h.pf hi) (fun x hx => by have := h.o0 x hx; have := h.p1; omega) (by have := h.o1; omega)
/-- all stations with the first program -/
def Tk.alike (t : Tk) (p : Prg) : Tk := { t with prgs := List.replicate t.prgs.length p }
theorem Tk.alike_ok {t : Tk} (h : t.ok) {p : Prg} (hp : p ∈ t.prgs) : (t.alike p).ok := by
  have hl : (t.alike p).prgs.length = t.prgs.length := List.length_replicate
  exact ⟨h.s0, h.s1, by rw [hl]; exact h.p0, by rw [hl]; exact h.p1, fun q hq => by rw [(List.mem_replicate.mp hq).2]; exact h.pf p hp, fun o ho => by rw [hl]; exact h.o0 o ho, h.o1⟩
theorem insOk_none (n : Nat) : insOk n (List.replicate n []) := ⟨List.length_replicate, fun i hi => by rw [(List.mem_replicate.mp hi).2]; exact ⟨by decide, fun x hx => nomatch hx⟩⟩
theorem insP_none (n : Nat) : insP (List.replicate n []) = List.replicate n (.tup []) := by rw [insP, List.map_replicate]; rfl
theorem alike_pv (t : Tk) (p : Prg) : ((t.alike p).prgs.map Prg.pv) = List.replicate t.prgs.length p.pv := List.map_replicate
theorem rp_ints {ns : List Int} (h : ∀ x ∈ ns, 0 ≤ x ∧ x < 1000000) (hl : ns.length ≤ 6) : Rp 1 12000 (.tup (iL ns)) := by
  have h1 : ∀ x ∈ iL ns, Rp 0 1921 x := fun x hx => by
    obtain ⟨o, ho, rfl⟩ := List.mem_map.mp hx
    exact rp_num (h o ho) (Nat.le_refl _)
  exact Rps.tup (Rps.all h1 (n := 11600) (by rw [List.length_map]; omega)) (by decide)
theorem rp_few {xs : List Nat} (h : ∀ x ∈ xs, x < 1000000) (hl : xs.length ≤ 8) : Rp 1 16000 (.tup (xs.map fun o => PV.int (o : Nat))) := by
  have h1 : ∀ x ∈ (xs.map fun o => PV.int (o : Nat)), Rp 0 1921 x := fun x hx => by
    obtain ⟨o, ho, rfl⟩ := List.mem_map.mp hx
    have := h o ho
    exact Rp.int (by omega) (by omega) (Nat.le_refl _)
  exact Rps.tup (Rps.all h1 (n := 15500) (by rw [List.length_map]; omega)) (by decide)
theorem Tk.ok.rp {t : Tk} (h : t.ok) : Rp 12 14900000 t.pv := by
  have h1 : ∀ x ∈ (t.prgs.map Prg.pv), Rp 10 3500000 x := fun x hx => by
    obtain ⟨o, ho, rfl⟩ := List.mem_map.mp hx
    exact (h.pf o ho).rp
  have := h.p1
  have h2 := Rps.tup (Rps.all h1 (n := 14000100) (by rw [List.length_map]; omega)) (Nat.le_refl _)
  have h3 := rp_deepN (rp_few (xs := t.order) (fun x hx => by have := h.o0 x hx; omega) (by have := h.o1; omega)) (show 1 ≤ 11 by decide)
  have h4 : Rp 11 1921 (.int t.size) := rp_deepN (rp_num (k := 0) ⟨by have := h.s0; omega, by have := h.s1; omega⟩ (Nat.le_refl _)) (show 0 ≤ 11 by decide)
  exact Rps.tup (.cons h4 (.cons h2 (.cons h3 (Rps.nil (z := 0)) (Nat.le_refl _)) (Nat.le_refl _)) (Nat.le_refl _)) (by decide)
theorem insOk.rp {n : Nat} {is : List (List Int)} (h : insOk n is) (hn : n ≤ 4) : Rp 12 50000 (.tup (insP is)) := by
  have h1 : ∀ x ∈ insP is, Rp 1 12000 x := fun x hx => by
    obtain ⟨o, ho, rfl⟩ := List.mem_map.mp hx
    exact rp_ints (h.few o ho).2 (h.few o ho).1
  have := h.len
  exact rp_deepN (Rps.tup (Rps.all h1 (n := 48100) (by rw [List.length_map]; omega)) (by decide)) (show 2 ≤ 12 by decide)
theorem both_rp {t : Tk} (h : t.ok) {is : List (List Int)} (hi : insOk t.prgs.length is) : Rp 13 15000000 (.tup [t.pv, .tup (insP is)]) :=
  Rps.tup (.cons h.rp (.cons (hi.rp h.p1) (Rps.nil (z := 0)) (Nat.le_refl _)) (Nat.le_refl _)) (by decide)
theorem okS_app (a b : Str) : PyData.strOk (a ++ b) = (PyData.strOk a && PyData.strOk b) := by
  show ((a.cps ++ b.cps).all _) = _
  rw [Array.all_append]
  rfl
theorem okS_of (s : String) : PyData.strOk (Str.ofString s) = true := by
  rw [Str.ofString_eq_toList]
  unfold PyData.strOk
  rw [← Array.all_toList, List.all_eq_true]
  intro c hc
  obtain ⟨d, _, rfl⟩ := List.mem_map.mp hc
  have := d.valid
  exact decide_eq_true (by
    rcases this with h | ⟨_, h⟩
    · exact Nat.lt_trans h (by decide)
    · exact h)
theorem okS_join {sep : Str} (hs : PyData.strOk sep = true) : ∀ {ts : List Str}, (∀ t ∈ ts, PyData.strOk t = true) → PyData.strOk (Str.join sep ts) = true
  | [], _ => by
    show PyData.strOk Str.empty = true
    decide +kernel
  | [x], h => h x (List.mem_cons_self ..)
  | x :: y :: r, h => by
    show PyData.strOk (x ++ sep ++ Str.join sep (y :: r)) = true
    rw [okS_app, okS_app, h x (List.mem_cons_self ..), hs, okS_join hs (fun t ht => h t (List.mem_cons_of_mem _ ht))]
    rfl
theorem shownAll_ints : ∀ ns : List Int, PyData.shownAll (ns.map .int) = ns.map fun n => Str.ofString (toString n)
  | [] => rfl
  | n :: r => by rw [List.map_cons, PyData.shownAll, shownAll_ints r]; rfl
theorem okS_ints (ns : List Int) : PyData.strOk (PyData.shown (dat (.tup (iL ns)))) = true := by
  rw [dat, dats_ints, PyData.shown, shownAll_ints, tupleText, okS_app, okS_app, okS_of, okS_of, okS_join (okS_of _) (fun t ht => by
    obtain ⟨n, _, rfl⟩ := List.mem_map.mp ht
    exact okS_of _)]
  rfl
end SP

/-! zip(a, b, strict=True), a and b equally long. -/
namespace L3
open PySem PySem.Spec PyProof.Rows L2
open Sem (wp)
abbrev IsZipK (h : Heap) (z TI TO : Addr) (f0 : Value) : Prop :=
  h.get? z = some { cls := .type "zip", dict := none, data := .fields #[f0, .bool false, .bool true, .ref TI, .ref TO], slots := #[] }
section
variable {prog : Program} {w : World} {A : Around} {E : Value → Shared → Prop} {s : Shared}
theorem nextOrEnd_item {it : Addr} {fp : List Addr} {n i : Nat} {P : Nat → Value → Prop} {St : Nat → Heap → Prop} (D : Draws prog w A it fp n P St) (hi : i < n) (st : St i s.heap) {Q : Option Value → Shared → Prop}
    (hQ : ∀ x h' tk, P i x → St (i + 1) h' → Heap.SameBut it s.heap h' → Q (some x) { s with heap := h', toks := tk }) : wpAny (model prog w) A (Builtin.SmallTypes.nextOrEnd (.ref it)) Q E s := by
  unfold Builtin.SmallTypes.nextOrEnd
  exact wpAny_bind (wpAny_attempt (D.item i s _ _ hi st fun x h' tk p st' hs => wpAny_pure (hQ x h' tk p st' hs)))
theorem nextOrEnd_done {it : Addr} {fp : List Addr} {n : Nat} {P : Nat → Value → Prop} {St : Nat → Heap → Prop} (D : Draws prog w A it fp n P St) (st : St n s.heap) {Q : Option Value → Shared → Prop}
    (hQ : ∀ h', Heap.ExtBut it s.heap h' → Q none { s with heap := h' }) : wpAny (model prog w) A (Builtin.SmallTypes.nextOrEnd (.ref it)) Q E s := by
  unfold Builtin.SmallTypes.nextOrEnd
  refine wpAny_bind (wpAny_attempt (D.done s _ _ st fun h' e hq he => ?_))
  obtain ⟨o, ho, hc⟩ := he
  refine wpAny_bind (wpAny_isInstance (T := "StopIteration") (b := true) ⟨o, ho, hc⟩ isSubtype_stop ?_)
  exact wpAny_pure (hQ _ hq)
theorem letGo_zipK {elts : List Expr} {x1} {pos : Pos} {z TI TO T : Addr} {Q : Unit → Shared → Prop} (hz : IsZipK s.heap z TI TO (rawInt T))
    (hQ : ∀ h', IsZipK h' z TI TO .none → Heap.SameBut z s.heap h' → Q () { s with heap := h' }) :
    wpAny (model prog w) A (letOwnedTupleGo (.Tuple elts x1 pos) (.ref z) (.ref T)) Q E s := by
  unfold letOwnedTupleGo
  refine wpAny_bind (wpAny_load hz ?_)
  show wpAny _ _ (if (["enumerate", "zip", "dict_itemiterator", "dict_reverseitemiterator", "odict_iterator", "itertools.zip_longest", "itertools.pairwise"].contains "zip" &&
      (#[rawInt T, .bool false, .bool true, .ref TI, .ref TO] : Array Value)[0]? == some (rawInt T)) = true then _ else _) Q E s
  rw [if_pos (by simp)]
  refine wpAny_bind (wpAny_rule ?_)
  show wpAny _ _ (setField (.ref z) 0 .none) Q E s
  exact wpAny_setField_rec hz (by simp) fun h' hz' hs' => hQ h' hz' hs'
theorem pyIter_zipK {z TI TO : Addr} {f0 : Value} {Q : Value → Shared → Prop} (hz : IsZipK s.heap z TI TO f0) (h : Q (.ref z) s) : wpAny (model prog w) A (pyIter (.ref z)) Q E s := by
  have hT : s.TypeIs (.ref z) "zip" := ⟨_, hz, rfl⟩
  refine wpAny_pyIter_slot hT F.slot_zip_iter (wpAny_call_entry F.slot_zip_iter hT F.entry_zip_iter ?_ (F.args_zip_iter_1 _))
  show wpAny _ _ (ret (.ref z)) _ _ s
  exact wpAny_pure ⟨_, rfl, "zip", _, hT, F.slot_zip_next.lookup, h⟩
end
section
variable {prog : Program} {w : World} {A : Around} {E : Value → Shared → Prop} {s : Shared} {z TI TO i1 i2 : Addr} {fp1 fp2 : List Addr} {n i : Nat} {P1 P2 : Nat → Value → Prop} {St1 St2 : Nat → Heap → Prop} {a1 a2 : Value}
theorem zipK_next_item {Q : Value → Shared → Prop} (S : ZipSep2 z TI TO i1 i2 fp1 fp2) (D1 : Draws prog w A i1 fp1 n P1 St1) (D2 : Draws prog w A i2 fp2 n P2 St2)
    (hz : IsZipK s.heap z TI TO .none) (hTI : IsTupOf2 s.heap TI (.ref i1) (.ref i2)) (hTO : IsTupOf2 s.heap TO a1 a2) (st1 : St1 i s.heap) (st2 : St2 i s.heap) (hlt : i < n)
    (hQ : ∀ x1 x2 h' tk, P1 i x1 → P2 i x2 → IsZipK h' z TI TO (rawInt s.heap.objs.size) → IsTupOf2 h' TO x1 x2 → St1 (i + 1) h' → St2 (i + 1) h' → IsTupOf2 h' s.heap.objs.size x1 x2 → h'.objs.size = s.heap.objs.size + 1 →
      (∀ c o, c ≠ z → c ≠ TO → c ≠ i1 → c ≠ i2 → s.heap.get? c = some o → h'.get? c = some o) → Q (.ref s.heap.objs.size) { s with heap := h', toks := tk }) :
    wpAny (model prog w) A (Builtin.«zip.__next__» ⟨[.ref z], []⟩) (fun fin s' => ∃ v, fin = .done (.ret v) ∧ Q v s') E s := by
  obtain ⟨hp, g, d, tk0, os⟩ := s
  show wpAny _ _ (field (.ref z) 2 >>= _) _ _ _
  refine wpAny_bind (wpAny_field hz rfl (x := .bool true) rfl ?_)
  show wpAny _ _ (field (.ref z) 3 >>= _) _ _ _
  refine wpAny_bind (wpAny_field hz rfl (x := .ref TI) rfl ?_)
  refine wpAny_bind (wpAny_seqItems hTI rfl ?_)
  show wpAny _ _ (Builtin.SmallTypes.ownedTupleIsFree (.ref z) >>= _) _ _ _
  refine wpAny_bind ?_
  unfold Builtin.SmallTypes.ownedTupleIsFree
  refine wpAny_bind (wpAny_field hz rfl (x := .none) rfl (wpAny_pure ?_))
  simp only [if_true]
  refine wpAny_bind (wpAny_rule ?_)
  refine wpAny_bind (wpAny_field hz rfl (x := .ref TO) rfl ?_)
  refine wpAny_bind (wpAny_setField_rec hz (by simp) fun g0 hz0 hs0 => ?_)
  replace hz0 : IsZipK g0 z TI TO .ellipsis := hz0
  replace hs0 : Heap.SameBut z hp g0 := hs0
  refine wpAny_bind ?_
  simp only [List.zipIdx_cons, List.zipIdx_nil, List.forIn_cons, List.forIn_nil]
  refine wpAny_bind (wpAny_bind (wpAny_onRaise ?_))
  show wpAny _ _ (Builtin.SmallTypes.nextOrEnd (.ref i1)) _ _ ⟨g0, g, d, tk0, os⟩
  refine nextOrEnd_item D1 hlt (D1.over st1 hs0 S.zf1) fun x1 p1 tk1 hx1 sn1 hp1 => ?_
  replace hp1 : Heap.SameBut i1 g0 p1 := hp1
  have hU1 : IsTupOf2 p1 TO a1 a2 := hp1.extBut _ _ S.Ti1 (hs0.extBut _ _ S.TOz hTO)
  refine wpAny_bind (wpAny_seqItems (s := ⟨p1, g, d, tk1, os⟩) hU1 rfl ?_)
  refine wpAny_bind (updateSeq_IsTupOf2 (s := ⟨p1, g, d, tk1, os⟩) hU1 fun g1 hT1 hs1 => ?_)
  replace hT1 : IsTupOf2 g1 TO x1 a2 := hT1
  replace hs1 : Heap.SameBut TO p1 g1 := hs1
  refine wpAny_bind (wpAny_letGo (wpAny_pure ?_))
  refine wpAny_bind (wpAny_bind (wpAny_onRaise ?_))
  show wpAny _ _ (Builtin.SmallTypes.nextOrEnd (.ref i2)) _ _ ⟨g1, g, d, tk1, os⟩
  refine nextOrEnd_item D2 hlt (D2.over (D2.over (D2.over st2 hs0 S.zf2) hp1 S.sep1_2) hs1 S.Tf2) fun x2 p2 tk2 hx2 sn2 hp2 => ?_
  replace hp2 : Heap.SameBut i2 g1 p2 := hp2
  have hU2 : IsTupOf2 p2 TO x1 a2 := hp2.extBut _ _ S.Ti2 hT1
  refine wpAny_bind (wpAny_seqItems (s := ⟨p2, g, d, tk2, os⟩) hU2 rfl ?_)
  refine wpAny_bind (updateSeq_IsTupOf2 (s := ⟨p2, g, d, tk2, os⟩) hU2 fun g2 hT2 hs2 => ?_)
  replace hT2 : IsTupOf2 g2 TO x1 x2 := hT2
  replace hs2 : Heap.SameBut TO p2 g2 := hs2
  refine wpAny_bind (wpAny_letGo (wpAny_pure (wpAny_pure ?_)))
  refine wpAny_bind (wpAny_seqItems (s := ⟨g2, g, d, tk2, os⟩) hT2 rfl ?_)
  refine wpAny_bind (wpAny_newTuple ?_)
  have hsz : g2.objs.size = hp.objs.size := by rw [hs2.1, hp2.1, hs1.1, hp1.1, hs0.1]
  have hzz : IsZipK g2 z TI TO .ellipsis := (hs2.extBut _ _ S.TOz.symm (hp2.extBut _ _ S.zi2 (hs1.extBut _ _ S.TOz.symm (hp1.extBut _ _ S.zi1 hz0))))
  have hkk : ∀ c o, c ≠ z → c ≠ TO → c ≠ i1 → c ≠ i2 → hp.get? c = some o → g2.get? c = some o := fun c o cz cT c1 c2 e =>
    (hs2.extBut _ _ cT (hp2.extBut _ _ c2 (hs1.extBut _ _ cT (hp1.extBut _ _ c1 (hs0.extBut _ _ cz e)))))
  have hj1 : St1 (i + 1) g2 := (D1.over (D1.over (D1.over sn1 hs1 S.Tf1) hp2 S.sep2_1) hs2 S.Tf1)
  have hj2 : St2 (i + 1) g2 := (D2.over sn2 hs2 S.Tf2)
  have hzlt : z < g2.objs.size := Heap.lt_size hzz
  show wpAny _ _ (Builtin.SmallTypes.ownedTupleHandOut (.ref z) (.ref g2.objs.size) >>= _) _ _ ⟨g2.push { cls := .type "tuple", data := .seq #[x1, x2] }, g, d, tk2, os⟩
  refine wpAny_bind ?_
  unfold Builtin.SmallTypes.ownedTupleHandOut
  have hz₆ : IsZipK (g2.push { cls := .type "tuple", data := .seq #[x1, x2] }) z TI TO .ellipsis := Heap.get?_push_of_some _ hzz
  refine wpAny_bind (wpAny_setField_rec hz₆ (by simp) fun h₇ hz₇ hs₇ => ?_)
  replace hz₇ : IsZipK h₇ z TI TO (rawInt g2.objs.size) := hz₇
  refine wpAny_setField_rec hz₇ (by simp) fun h₈ hz₈ hs₈ => ?_
  replace hz₈ : IsZipK h₈ z TI TO (rawInt g2.objs.size) := hz₈
  replace hs₇ : Heap.SameBut z (g2.push { cls := .type "tuple", data := .seq #[x1, x2] }) h₇ := hs₇
  replace hs₈ : Heap.SameBut z h₇ h₈ := hs₈
  have up : ∀ c o, c ≠ z → g2.get? c = some o → h₈.get? c = some o := fun c o c1 e => hs₈.extBut _ _ c1 (hs₇.extBut _ _ c1 (Heap.get?_push_of_some _ e))
  have hT₈ : IsTupOf2 h₈ g2.objs.size x1 x2 := hs₈.extBut _ _ (Nat.ne_of_gt hzlt) (hs₇.extBut _ _ (Nat.ne_of_gt hzlt) (Heap.get?_push_size _ rfl))
  have hz8 : h₈.objs.size = g2.objs.size + 1 := by rw [hs₈.1, hs₇.1, Heap.size_push]
  rw [hsz] at hz₈ hT₈ hz8
  refine wpAny_pure ⟨_, rfl, ?_⟩
  show Q (.ref g2.objs.size) ⟨h₈, g, d, tk2, os⟩
  rw [hsz]
  exact hQ x1 x2 h₈ tk2 hx1 hx2 hz₈ (up _ _ S.TOz hT2) (D1.frame _ _ _ hj1 fun b hb o e => up b o (fun q => S.zf1 (q ▸ hb)) e) (D2.frame _ _ _ hj2 fun b hb o e => up b o (fun q => S.zf2 (q ▸ hb)) e) hT₈ hz8 fun c o cz cT c1 c2 e => up c o cz (hkk c o cz cT c1 c2 e)
theorem zipK_next_end {Q : Fin → Shared → Prop} (hh : A.handled = none) (S : ZipSep2 z TI TO i1 i2 fp1 fp2) (D1 : Draws prog w A i1 fp1 n P1 St1) (D2 : Draws prog w A i2 fp2 n P2 St2)
    (hz : IsZipK s.heap z TI TO .none) (hTI : IsTupOf2 s.heap TI (.ref i1) (.ref i2)) (hTO : IsTupOf2 s.heap TO a1 a2) (st1 : St1 n s.heap) (st2 : St2 n s.heap)
    (hE : ∀ h' tk e, (∀ c o, c ≠ z → c ≠ TO → c ≠ i1 → c ≠ i2 → s.heap.get? c = some o → h'.get? c = some o) → (∃ o, h'.get? e = some o ∧ o.cls = .type "StopIteration") → E (.ref e) { s with heap := h', toks := tk }) :
    wpAny (model prog w) A (Builtin.«zip.__next__» ⟨[.ref z], []⟩) Q E s := by
  obtain ⟨hp, g, d, tk0, os⟩ := s
  show wpAny _ _ (field (.ref z) 2 >>= _) _ _ _
  refine wpAny_bind (wpAny_field hz rfl (x := .bool true) rfl ?_)
  show wpAny _ _ (field (.ref z) 3 >>= _) _ _ _
  refine wpAny_bind (wpAny_field hz rfl (x := .ref TI) rfl ?_)
  refine wpAny_bind (wpAny_seqItems hTI rfl ?_)
  show wpAny _ _ (Builtin.SmallTypes.ownedTupleIsFree (.ref z) >>= _) _ _ _
  refine wpAny_bind ?_
  unfold Builtin.SmallTypes.ownedTupleIsFree
  refine wpAny_bind (wpAny_field hz rfl (x := .none) rfl (wpAny_pure ?_))
  simp only [if_true]
  refine wpAny_bind (wpAny_rule ?_)
  refine wpAny_bind (wpAny_field hz rfl (x := .ref TO) rfl ?_)
  refine wpAny_bind (wpAny_setField_rec hz (by simp) fun g0 hz0 hs0 => ?_)
  replace hz0 : IsZipK g0 z TI TO .ellipsis := hz0
  replace hs0 : Heap.SameBut z hp g0 := hs0
  refine wpAny_bind ?_
  simp only [List.zipIdx_cons, List.zipIdx_nil, List.forIn_cons, List.forIn_nil]
  refine wpAny_bind (wpAny_bind (wpAny_onRaise ?_))
  show wpAny _ _ (Builtin.SmallTypes.nextOrEnd (.ref i1)) _ _ ⟨g0, g, d, tk0, os⟩
  refine nextOrEnd_done D1 (D1.over st1 hs0 S.zf1) fun q hq => ?_
  replace hq : Heap.ExtBut i1 g0 q := hq
  have hzq : IsZipK q z TI TO .ellipsis := hq _ _ S.zi1 hz0
  refine wpAny_bind (wpAny_setField_rec (s := ⟨q, g, d, tk0, os⟩) hzq (by simp) fun q' hzq' hq' => ?_)
  replace hq' : Heap.SameBut z q q' := hq'
  refine wpAny_bind ?_
  refine wpAny_bind (m := forIn ((List.drop 1 [Value.ref i1, Value.ref i2]).zipIdx 1) PUnit.unit _) ?_
  simp only [List.drop_succ_cons, List.drop_zero, List.zipIdx_cons, List.zipIdx_nil, List.forIn_cons, List.forIn_nil]
  have hst2 : St2 n q' := D2.over (D2.frame _ _ _ (D2.over st2 hs0 S.zf2) fun b hb o e => hq b o (fun x => S.sep1_2 (x ▸ hb)) e) hq' S.zf2
  refine wpAny_bind (wpAny_bind (nextOrEnd_done D2 (s := ⟨q', g, d, tk0, os⟩) hst2 fun q2 hq2 => ?_))
  replace hq2 : Heap.ExtBut i2 q' q2 := hq2
  show wpAny _ _ (if (none : Option Value).isSome = true then _ else _) _ _ _
  rw [if_neg (by decide)]
  refine wpAny_pure (wpAny_pure ?_)
  refine wpAny_bind (wpAny_rule ?_)
  show wpAny _ _ (newExc (.type "StopIteration") [] >>= _) _ _ _
  refine wpAny_bind ?_
  simp only [newExc, newTuple]
  refine wpAny_bind (wpAny_newObj_type ?_ (by size_fits))
  refine wpAny_bind (m := firstArgMember _ _) (wpAny_of_eq (a := Value.none) (by first | rfl | (simp only [firstArgMember]; rfl)) ?_)
  refine wpAny_newObj_type ?_ (by size_fits)
  simp only [raiseNew]
  refine wpAny_bind (wpAny_handled ?_)
  first | rw [show A.in1.handled = none from hh] | rw [hh]
  refine wpAny_bind (wpAny_pure (wpAny_throw ?_))
  refine hE _ _ _ (fun c o cz cT c1 c2 e => ?_) ⟨_, Heap.get?_push_size _ rfl, rfl⟩
  exact Heap.get?_push_of_some _ (Heap.get?_push_of_some _ (hq2 _ _ c2 (hq'.extBut _ _ cz (hq _ _ c1 (hs0.extBut _ _ cz e)))))
theorem pyNext_zipK_item {Q : Option Value → Shared → Prop} (S : ZipSep2 z TI TO i1 i2 fp1 fp2) (D1 : Draws prog w A.in1 i1 fp1 n P1 St1) (D2 : Draws prog w A.in1 i2 fp2 n P2 St2)
    (hz : IsZipK s.heap z TI TO .none) (hTI : IsTupOf2 s.heap TI (.ref i1) (.ref i2)) (hTO : IsTupOf2 s.heap TO a1 a2) (st1 : St1 i s.heap) (st2 : St2 i s.heap) (hlt : i < n)
    (hQ : ∀ x1 x2 h' tk, P1 i x1 → P2 i x2 → IsZipK h' z TI TO (rawInt s.heap.objs.size) → IsTupOf2 h' TO x1 x2 → St1 (i + 1) h' → St2 (i + 1) h' → IsTupOf2 h' s.heap.objs.size x1 x2 → h'.objs.size = s.heap.objs.size + 1 →
      (∀ c o, c ≠ z → c ≠ TO → c ≠ i1 → c ≠ i2 → s.heap.get? c = some o → h'.get? c = some o) → Q (some (.ref s.heap.objs.size)) { s with heap := h', toks := tk }) :
    wpAny (model prog w) A (pyNext (.ref z)) Q E s := by
  have hT : s.TypeIs (.ref z) "zip" := ⟨_, hz, rfl⟩
  unfold pyNext
  exact wpAny_bind (wpAny_attempt (wpAny_callSpecial?_slot (name := Str.ofString "__next__") hT F.slot_zip_next
    (wpAny_call_entry F.slot_zip_next hT F.entry_zip_next
      (zipK_next_item S D1 D2 hz hTI hTO st1 st2 hlt fun x1 x2 h' tk y1 y2 b1 b2 d1 d2 b5 b6 b7 => wpAny_pure (hQ x1 x2 h' tk y1 y2 b1 b2 d1 d2 b5 b6 b7)) (F.args_zip_next_1 _))))
theorem pyNext_zipK_end {Q : Option Value → Shared → Prop} (hh : A.in1.handled = none) (S : ZipSep2 z TI TO i1 i2 fp1 fp2) (D1 : Draws prog w A.in1 i1 fp1 n P1 St1) (D2 : Draws prog w A.in1 i2 fp2 n P2 St2)
    (hz : IsZipK s.heap z TI TO .none) (hTI : IsTupOf2 s.heap TI (.ref i1) (.ref i2)) (hTO : IsTupOf2 s.heap TO a1 a2) (st1 : St1 n s.heap) (st2 : St2 n s.heap)
    (hQ : ∀ h' tk, (∀ c o, c ≠ z → c ≠ TO → c ≠ i1 → c ≠ i2 → s.heap.get? c = some o → h'.get? c = some o) → Q none { s with heap := h', toks := tk }) : wpAny (model prog w) A (pyNext (.ref z)) Q E s := by
  have hT : s.TypeIs (.ref z) "zip" := ⟨_, hz, rfl⟩
  unfold pyNext
  refine wpAny_bind (wpAny_attempt (wpAny_callSpecial?_slot (name := Str.ofString "__next__") hT F.slot_zip_next
    (wpAny_call_entry F.slot_zip_next hT F.entry_zip_next (zipK_next_end hh S D1 D2 hz hTI hTO st1 st2 fun h' tk e hk he => ?_) (F.args_zip_next_1 _))))
  obtain ⟨o, ho, hc⟩ := he
  refine wpAny_bind (wpAny_isInstance (T := "StopIteration") (b := true) ⟨o, ho, hc⟩ isSubtype_stop ?_)
  exact wpAny_pure (hQ _ _ hk)
theorem walks_zipK (hh : A.in1.handled = none) (S : ZipSep2 z TI TO i1 i2 fp1 fp2) (D1 : Draws prog w A.in1 i1 fp1 n P1 St1) (D2 : Draws prog w A.in1 i2 fp2 n P2 St2) :
    WalksT prog w A z (z :: TI :: TO :: (fp1 ++ fp2)) [z, TO, i1, i2] n
      (fun i vals => ∃ x1 x2, P1 i x1 ∧ P2 i x2 ∧ vals = #[x1, x2])
      (fun i h => IsZipK h z TI TO .none ∧ IsTupOf2 h TI (.ref i1) (.ref i2) ∧ (∃ a1 a2, IsTupOf2 h TO a1 a2) ∧ St1 i h ∧ St2 i h)
      (fun i T h => IsZipK h z TI TO (rawInt T) ∧ IsTupOf2 h TI (.ref i1) (.ref i2) ∧ (∃ a1 a2, IsTupOf2 h TO a1 a2) ∧ St1 (i + 1) h ∧ St2 (i + 1) h ∧ T ≠ z ∧ T ≠ TO ∧ T ≠ i1 ∧ T ≠ i2) where
  sub := fun c hc => by
    have hc' : c = z ∨ c = TO ∨ c = i1 ∨ c = i2 := by simpa using hc
    rcases hc' with rfl | rfl | rfl | rfl
    · exact List.mem_cons_self ..
    · exact List.mem_cons_of_mem _ (List.mem_cons_of_mem _ (List.mem_cons_self ..))
    · exact List.mem_cons_of_mem _ (List.mem_cons_of_mem _ (List.mem_cons_of_mem _ (List.mem_append_left _ S.mem1)))
    · exact List.mem_cons_of_mem _ (List.mem_cons_of_mem _ (List.mem_cons_of_mem _ (List.mem_append_right _ S.mem2)))
  frame := fun i h h' hst hk => by
    obtain ⟨hz, hTI, ⟨a1, a2, hTO⟩, st1, st2⟩ := hst
    exact ⟨hk z (List.mem_cons_self ..) _ hz, hk TI (List.mem_cons_of_mem _ (List.mem_cons_self ..)) _ hTI, ⟨a1, a2, hk TO (List.mem_cons_of_mem _ (List.mem_cons_of_mem _ (List.mem_cons_self ..))) _ hTO⟩,
      D1.frame _ _ _ st1 fun b hb o e => hk b (List.mem_cons_of_mem _ (List.mem_cons_of_mem _ (List.mem_cons_of_mem _ (List.mem_append_left _ hb)))) o e, D2.frame _ _ _ st2 fun b hb o e => hk b (List.mem_cons_of_mem _ (List.mem_cons_of_mem _ (List.mem_cons_of_mem _ (List.mem_append_right _ hb)))) o e⟩
  item := fun i s Q E hi hst hQ => by
    obtain ⟨hz, hTI, ⟨a1, a2, hTO⟩, st1, st2⟩ := hst
    refine pyNext_zipK_item S D1 D2 hz hTI hTO st1 st2 hi fun x1 x2 h' tk y1 y2 b1 b2 d1 d2 b5 b6 hk => ?_
    have lt : ∀ {c o}, s.heap.get? c = some o → s.heap.objs.size ≠ c := fun e => Nat.ne_of_gt (Heap.lt_size e)
    have l1 : s.heap.objs.size ≠ i1 := by obtain ⟨_, e⟩ := D1.live _ _ st1; exact lt e
    have l2 : s.heap.objs.size ≠ i2 := by obtain ⟨_, e⟩ := D2.live _ _ st2; exact lt e
    exact hQ s.heap.objs.size #[x1, x2] h' tk ⟨x1, x2, y1, y2, rfl⟩ (Nat.le_refl _) ⟨_, b5, rfl, _, rfl⟩
      ⟨b1, hk _ _ S.TIz S.TITO S.TIi1 S.TIi2 hTI, ⟨_, _, b2⟩, d1, d2, lt hz, lt hTO, l1, l2⟩
      fun c o hc e => hk c o (fun x => hc (by simp [x])) (fun x => hc (by simp [x])) (fun x => hc (by simp [x])) (fun x => hc (by simp [x])) e
  go := fun elts k pos i T s Q E hm hQ => by
    obtain ⟨hz, hTI, ⟨a1, a2, hTO⟩, st1, st2, _⟩ := hm
    refine letGo_zipK hz fun h' hz' hs' => hQ h' ⟨hz', hs'.extBut _ _ S.TIz hTI, ⟨a1, a2, hs'.extBut _ _ S.TOz hTO⟩, D1.over st1 hs' S.zf1, D2.over st2 hs' S.zf2⟩ fun c o hc e => hs'.extBut _ _ (fun x => hc (by simp [x])) e
  apart := fun i T h hm hT => by
    obtain ⟨_, _, _, _, _, tz, tT, t1, t2⟩ := hm
    have hT' : T = z ∨ T = TO ∨ T = i1 ∨ T = i2 := by simpa using hT
    rcases hT' with e | e | e | e
    · exact tz e
    · exact tT e
    · exact t1 e
    · exact t2 e
  done := fun s Q E hst hQ => by
    obtain ⟨hz, hTI, ⟨a1, a2, hTO⟩, st1, st2⟩ := hst
    exact pyNext_zipK_end hh S D1 D2 hz hTI hTO st1 st2 fun h' tk hk => hQ h' tk fun c o hc e =>
      hk c o (fun x => hc (by simp [x])) (fun x => hc (by simp [x])) (fun x => hc (by simp [x])) (fun x => hc (by simp [x])) e
  self := fun i s Q E hst hQ => pyIter_zipK hst.1 hQ
end
section
variable {M : Model} {A : Around} {E : Value → Shared → Prop} {s : Shared} {env : Env}
theorem callWith_typeKw {pos : Pos} {T : String} {e : Expr} {rest : List Expr} {kws : List Keyword} {Q : Value → Shared → Prop}
    (h : wpAny M A (spliced (backTo pos (starEach (e :: rest) env))) (fun vs s₁ => wpAny M A (evalAll ((backToKw pos (keywordEach kws env)).map (·.2)))
      (fun kvs s₂ => wpAny M A (call (.type T) vs (((backToKw pos (keywordEach kws env)).filterMap (·.1)).zip kvs)) Q E s₂) E s₁) E s)
    (he : backTo pos (starEach (e :: rest) env) = (false, eval e env) :: backTo pos (starEach rest env) := by rfl)
    (hplain : (backTo pos (starEach (e :: rest) env)).any (·.1) = false := by rfl)
    (hall : (backToKw pos (keywordEach kws env)).all (·.1.isSome) = true := by rfl)
    (hkw : (backToKw pos (keywordEach kws env)).any (·.1.isNone) = false := by rfl) :
    wpAny M A (callWith pos (.type T) [] (backTo pos (starEach (e :: rest) env)) (backToKw pos (keywordEach kws env))) Q E s := by
  have h2 : wpAny M A (evalArgs (.type T) true (backTo pos (starEach (e :: rest) env)) (backToKw pos (keywordEach kws env))) (fun a s₁ => wpAny M A (call (.type T) ([] ++ a.pos) a.kw) Q E s₁) E s := by
    rw [he] at h ⊢
    exact evalArgs_kwB hall h
  unfold callWith
  refine wpAny_bind (wpAny_holding (wpAny_mono h2 (fun a s₁ h₁ => wpAny_bind (wpAny_standAt ?_)) fun _ _ x => x))
  simp only [hplain, hkw, Bool.or_false]
  refine wpAny_bind (wpAny_pure ?_)
  exact wpAny_bind (wpAny_mono h₁ (fun r s₂ hr => wpAny_bind (wpAny_holding (wpAny_point (wpAny_pure hr)))) fun _ _ x => x)
end
theorem typeCall_zip_strict (a b c : Value) : checkTypeCall "zip" ⟨[a, b], [(Str.ofString "strict", c)]⟩ = pure () := by kernel_rfl
theorem newCall_zip_strict (a b c : Value) : checkBuiltinCall "zip.__new__" ⟨[.type "zip", a, b], [(Str.ofString "strict", c)]⟩ = pure () := by kernel_rfl
theorem args_object_init_strict (obj a b c : Value) : argsOk "object.__init__" ⟨[obj, a, b], [(Str.ofString "strict", c)]⟩ := by unfold argsOk; kernel_rfl
abbrev gzK (h : Heap) (o1 o2 : Obj) : Heap := (gzO2 h o1 o2).push { cls := .type "zip", data := .fields #[.none, .bool false, .bool true, .ref ((h.push o1).push o2).objs.size, .ref (gzT2 h o1 o2).objs.size] }
set_option maxHeartbeats 1000000 in
theorem meets_zip_newK {v1 v2 : Value} {o1 o2 : Obj} {H1 H2 : Heap → Prop} (B1 : Begins v1 o1 H1) (B2 : Begins v2 o2 H2) :
    Meets (Builtin.«zip.__new__» ⟨[.type "zip", v1, v2], [(Str.ofString "strict", .bool true)]⟩) (fun _ R s => (H1 s.heap ∧ H2 s.heap) ∧
      R (.ok (.ret (.ref (gzO2 s.heap o1 o2).objs.size))) { s with heap := gzK s.heap o1 o2 }) :=
  .of_wp fun prog w A R s h => by
    obtain ⟨hp, g, d, tk, os⟩ := s; obtain ⟨⟨h1, h2⟩, h⟩ := h
    have hsub := sub_zip
    have q1 : ∀ {A' : Around} {E : Value → Shared → Prop} {Q : Value → Shared → Prop}, Q (.ref hp.objs.size) ⟨(hp.push o1), g, d, tk, os⟩ → wpAny (model prog w) A' (pyIter v1) Q E ⟨hp, g, d, tk, os⟩ :=
      fun q => B1.iter prog w _ _ ⟨hp, g, d, tk, os⟩ _ (B1.keeps _ _ h1 fun b o' e => e) q
    have q2 : ∀ {A' : Around} {E : Value → Shared → Prop} {Q : Value → Shared → Prop}, Q (.ref (hp.push o1).objs.size) ⟨((hp.push o1).push o2), g, d, tk, os⟩ → wpAny (model prog w) A' (pyIter v2) Q E ⟨(hp.push o1), g, d, tk, os⟩ :=
      fun q => B2.iter prog w _ _ ⟨(hp.push o1), g, d, tk, os⟩ _ (B2.keeps _ _ h2 fun b o' e => (Heap.get?_push_of_some _ e)) q
    have e1 : (Str.ofString "strict" == ("strict" : Str)) = true := by decide +kernel
    have e2 : (Str.ofString "strict" != ("strict" : Str)) = false := by decide +kernel
    wp_walk using q1, q2
    exact ⟨_, rfl, h⟩
section
variable {prog : Program} {w : World} {A : Around} {E : Value → Shared → Prop} {s : Shared}
theorem zipK_begins {v1 v2 : Value} {o1 o2 : Obj} {H1 H2 : Heap → Prop} {Q : Value → Shared → Prop} (B1 : Begins v1 o1 H1) (B2 : Begins v2 o2 H2) (h1 : H1 s.heap) (h2 : H2 s.heap)
    (h : ∀ h', IsZipK h' (s.heap.objs.size + 4) (s.heap.objs.size + 2) (s.heap.objs.size + 3) .none → IsTupOf2 h' (s.heap.objs.size + 2) (.ref s.heap.objs.size) (.ref (s.heap.objs.size + 1)) →
      IsTupOf2 h' (s.heap.objs.size + 3) .none .none → h'.get? s.heap.objs.size = some o1 → h'.get? (s.heap.objs.size + 1) = some o2 → h'.objs.size = s.heap.objs.size + 5 →
      (∀ c o, s.heap.get? c = some o → h'.get? c = some o) → Q (.ref (s.heap.objs.size + 4)) { s with heap := h' }) :
    wpAny (model prog w) A (call (.type "zip") [v1, v2] [(Str.ofString "strict", .bool true)]) Q E s := by
  refine callType_newKw F.called_zip (by decide) (typeCall_zip_strict _ _ _) (newCall_zip_strict _ _ _) (fun obj => args_object_init_strict obj _ _ _) F.entry_zip_new
    (meets_zip_newK B1 B2) ⟨⟨h1, h2⟩, ?_⟩
  have z1 : (s.heap.push o1).objs.size = s.heap.objs.size + 1 := by rw [Heap.size_push]
  have z2 : ((s.heap.push o1).push o2).objs.size = s.heap.objs.size + 2 := by rw [Heap.size_push, z1]
  have zT : (gzT2 s.heap o1 o2).objs.size = s.heap.objs.size + 3 := by rw [Heap.size_push, z2]
  have zO : (gzO2 s.heap o1 o2).objs.size = s.heap.objs.size + 4 := by rw [Heap.size_push, zT]
  have zZ : (gzK s.heap o1 o2).objs.size = s.heap.objs.size + 5 := by rw [Heap.size_push, zO]
  have gZ : (gzK s.heap o1 o2).get? (gzO2 s.heap o1 o2).objs.size = some { cls := .type "zip", data := .fields #[.none, .bool false, .bool true, .ref ((s.heap.push o1).push o2).objs.size, .ref (gzT2 s.heap o1 o2).objs.size] } := Heap.get?_push_size _ rfl
  have gO : (gzK s.heap o1 o2).get? (gzT2 s.heap o1 o2).objs.size = some { cls := .type "tuple", data := .seq #[.none, .none] } := Heap.get?_push_of_some _ (Heap.get?_push_size _ rfl)
  have gT : (gzK s.heap o1 o2).get? ((s.heap.push o1).push o2).objs.size = some { cls := .type "tuple", data := .seq #[.ref s.heap.objs.size, .ref (s.heap.push o1).objs.size] } := Heap.get?_push_of_some _ (Heap.get?_push_of_some _ (Heap.get?_push_size _ rfl))
  have g1 : (gzK s.heap o1 o2).get? s.heap.objs.size = some o1 := Heap.get?_push_of_some _ (Heap.get?_push_of_some _ (Heap.get?_push_of_some _ (Heap.get?_push_of_some _ (Heap.get?_push_size _ B1.free))))
  have g2 : (gzK s.heap o1 o2).get? (s.heap.push o1).objs.size = some o2 := Heap.get?_push_of_some _ (Heap.get?_push_of_some _ (Heap.get?_push_of_some _ (Heap.get?_push_size _ B2.free)))
  rw [zO, zT, z2] at gZ
  rw [zT] at gO
  rw [z2, z1] at gT
  rw [z1] at g2
  show _ ∧ _
  rw [zO]
  exact ⟨⟨_, gZ, rfl⟩, h _ gZ gT gO g1 g2 zZ fun c o e => Heap.get?_push_of_some _ (Heap.get?_push_of_some _ (Heap.get?_push_of_some _ (Heap.get?_push_of_some _ (Heap.get?_push_of_some _ e))))⟩
end
/-- zip(a, b, strict=True): a and b equally long -/
def iZipT (K : PySem.W.Frag) (ta : TA) : TI := fun σ H R => ta σ H fun vs H1 => ∃ a b xs ys, vs = [.ref a, .ref b] ∧ xs.length = ys.length ∧
  ((SqL K H1 a xs ∧ SqL K H1 b ys ∧ R (Itu (min xs.length ys.length) (fun H => SqL K H a xs ∧ SqL K H b ys) (YZip xs ys)) H1) ∨
   (SqL K H1 a xs ∧ SqT K H1 b ys ∧ R (Itu (min xs.length ys.length) (fun H => SqL K H a xs ∧ SqT K H b ys) (YZip xs ys)) H1) ∨
   (SqT K H1 a xs ∧ SqL K H1 b ys ∧ R (Itu (min xs.length ys.length) (fun H => SqT K H a xs ∧ SqL K H b ys) (YZip xs ys)) H1) ∨
   (SqT K H1 a xs ∧ SqT K H1 b ys ∧ R (Itu (min xs.length ys.length) (fun H => SqT K H a xs ∧ SqT K H b ys) (YZip xs ys)) H1))
theorem pi_zipT {X : Cx} {e e2 : Expr} {ta : TA} {p pos tpos : Pos} {elts : List Expr} {kk : Nat} {kws : List Keyword} (hg : Gl X "zip") (hm : X.mg "zip" = none) (ha : PA X [e, e2] ta) (hkw : PK X kws (tCons (tC (.bl true)) tNil))
    (hs : backTo pos (starEach [e, e2] X.env) = (false, eval e X.env) :: backTo pos (starEach [e2] X.env) := by rfl) (hpl : (backTo pos (starEach [e, e2] X.env)).any (·.1) = false := by rfl)
    (hall : (backToKw pos (keywordEach kws X.env)).all (·.1.isSome) = true := by rfl) (hno : (backToKw pos (keywordEach kws X.env)).any (·.1.isNone) = false := by rfl)
    (hks : (backToKw pos (keywordEach kws X.env)).filterMap (·.1) = [Str.ofString "strict"] := by rfl) :
    PI X (.Tuple elts kk tpos) (.Call (.Name "zip" p) [e, e2] kws pos) (iZipT X.K ta) := by
  refine ⟨fun pins s0 σ H R I0 h => ?_⟩
  refine wpAny_Call_Name_kw (ld_blt I0 hg hm PyProof.Rows.boot_zip ?_)
  refine callWith_typeKw (thn (ha.run pos pins s0 σ H _ I0 h) fun us s9 ⟨vs, H1, I9, r1, q1⟩ => ?_) hs hpl hall hno
  refine thn (hkw.run pos pins s9 σ H1 (fun zs H2 => zs = [.bl true] ∧ H2 = H1) I9 ⟨rfl, rfl⟩) fun ws s1 ⟨zs, H2, I1', rz, ez, eH⟩ => ?_
  subst ez
  have I1 : Inv X pins σ H1 s1 := by rw [← eH]; exact I1'
  rw [hks]
  cases rz with
  | cons rb rn =>
  cases rn
  cases rb
  obtain ⟨a, b, xs, ys, ex, hxy, hq⟩ := q1
  subst ex
  cases r1 with
  | cons r rr =>
    cases rr with
    | cons r' rr =>
      cases rr
      cases r
      cases r'
      have go : ∀ (kd : Kd X.K a xs) (kf : Kd X.K b ys), kd.G H1 → kf.G H1 → R (Itu (min xs.length ys.length) (fun H => kd.G H ∧ kf.G H) (YZip xs ys)) H1 →
          wpAny (model X.prog X.w) X.A (call (.type "zip") [.ref a, .ref b] [(Str.ofString "strict", .bool true)]) (fun v s1 => wpAny (model X.prog X.w) X.A (pyIter v) (PIE X pins σ (.Tuple elts kk tpos) R) X.xe s1) X.xe s1 := by
        intro kd kf g gf q
        obtain ⟨its, rv, hc, hlt⟩ := kd.cont X pins σ H1 s1 rfl I1 g
        obtain ⟨itf, rvf, hcf, hltf⟩ := kf.cont X pins σ H1 s1 rfl I1 gf
        refine zipK_begins (kd.begins its) (kf.begins itf) hc hcf fun h1 hz hTI hTO hi1 hi2 hsz hk => pyIter_zipK hz ?_
        have I2 : Inv X pins σ H1 { s1 with heap := h1 } := I1.kept (t' := s1.toks) hk
        generalize hN : s1.heap.objs.size = N at *
        refine ⟨N + 4, [N + 4, N + 2, N + 3, N, N + 1], fun i h => IsZipK h (N + 4) (N + 2) (N + 3) .none ∧ IsTupOf2 h (N + 2) (.ref N) (.ref (N + 1)) ∧ (∃ a1 a2, IsTupOf2 h (N + 3) a1 a2) ∧ kd.S i N h ∧ kf.S i (N + 1) h, _, H1, rfl, I2,
          turn_of (wr := [N + 4, N + 3, N, N + 1]) (by simp) (fun c hcm => ?_) (fun i h st c hcm => ?_) (fun i h h' st k => ?_) (fun A i s Q E st hQ => ?_) (fun Y pins' σ' H' s' hP hw hK hcalm I' g' => ?_),
          ⟨hz, hTI, ⟨_, _, hTO⟩, kd.start _ _ hi1, kf.start _ _ hi2⟩, fun c hcm => ?_, q⟩
        · have e' : c = N + 4 ∨ c = N + 3 ∨ c = N ∨ c = N + 1 := by simpa using hcm
          rcases e' with z | z | z | z <;> rw [z] <;> simp
        · obtain ⟨z1, z2, ⟨a1, a2, z3⟩, z4, z5⟩ := st
          have e' : c = N + 4 ∨ c = N + 2 ∨ c = N + 3 ∨ c = N ∨ c = N + 1 := by simpa using hcm
          rcases e' with z | z | z | z | z
          · rw [z]; exact ⟨_, z1, fun v q => nomatch q⟩
          · rw [z]; exact ⟨_, z2, fun v q => nomatch q⟩
          · rw [z]; exact ⟨_, z3, fun v q => nomatch q⟩
          · rw [z]; exact kd.live i _ h z4
          · rw [z]; exact kf.live i _ h z5
        · obtain ⟨z1, z2, ⟨a1, a2, z3⟩, z4, z5⟩ := st
          exact ⟨k _ (by simp) _ z1, k _ (by simp) _ z2, ⟨a1, a2, k _ (by simp) _ z3⟩, kd.keep i _ h h' z4 fun u hu => k _ (by simp) u hu, kf.keep i _ h h' z5 fun u hu => k _ (by simp) u hu⟩
        · exact pyIter_zipK st.1 hQ
        · obtain ⟨ga, gb⟩ := g'
          obtain ⟨its', rv', hc', hlt'⟩ := kd.cont Y pins' σ' H' s' hK I' ga
          obtain ⟨itf', rvf', hcf', hltf'⟩ := kf.cont Y pins' σ' H' s' hK I' gb
          have D := kd.draws Y.prog Y.w Y.A.in1 N its' (I'.ok.hd hcalm) (Nat.ne_of_lt hlt)
          have Df := kf.draws Y.prog Y.w Y.A.in1 (N + 1) itf' (I'.ok.hd hcalm) (Nat.ne_of_lt (Nat.lt_succ_of_lt hltf))
          have hlen : itf'.length = its'.length := by rw [← rv'.length, ← rvf'.length, hxy]
          rw [hlen] at Df
          have W := walks_zipK (A := Y.A) (I'.ok.hd hcalm) (zip_sep2 (N := N) (fp1 := [a]) (fp2 := [b]) (fun c hcm => by rw [List.mem_singleton.mp hcm]; exact hlt) (fun c hcm => by rw [List.mem_singleton.mp hcm]; exact hltf)) D Df
          rw [hP, hw] at W
          have e : (fun (i : Nat) (h : Heap) => IsZipK h (N + 4) (N + 2) (N + 3) .none ∧ IsTupOf2 h (N + 2) (.ref N) (.ref (N + 1)) ∧ (∃ a1 a2, IsTupOf2 h (N + 3) a1 a2) ∧ (kd.S i N h ∧ kd.C its' h) ∧ (kf.S i (N + 1) h ∧ kf.C itf' h)) =
              fun i h => (IsZipK h (N + 4) (N + 2) (N + 3) .none ∧ IsTupOf2 h (N + 2) (.ref N) (.ref (N + 1)) ∧ (∃ a1 a2, IsTupOf2 h (N + 3) a1 a2) ∧ kd.S i N h ∧ kf.S i (N + 1) h) ∧ kd.C its' h ∧ kf.C itf' h := by
            funext i h
            apply propext
            constructor
            · rintro ⟨z1, z2, z3, ⟨z4, z5⟩, z6, z7⟩
              exact ⟨⟨z1, z2, z3, z4, z6⟩, z5, z7⟩
            · rintro ⟨⟨z1, z2, z3, z4, z6⟩, z5, z7⟩
              exact ⟨z1, z2, z3, ⟨z4, z5⟩, z6, z7⟩
          rw [e] at W
          have hmin : its'.length = min xs.length ys.length := by rw [← rv'.length, ← hxy, Nat.min_self]
          rw [hmin] at W
          refine ⟨_, _, _, fun h => kd.C its' h ∧ kf.C itf' h, W, ⟨hc', hcf'⟩, ?_⟩
          · rintro i vals ⟨x, y, hx, hy, rfl⟩
            have hx' : its'[i]? = some x := hx
            have hy' : itf'[i]? = some y := hy
            have hl : i < xs.length := by rw [rv'.length]; exact (List.getElem?_eq_some_iff.mp hx').1
            have hl2 : i < ys.length := by rw [rvf'.length]; exact (List.getElem?_eq_some_iff.mp hy').1
            obtain ⟨u, hu, ru⟩ := rv'.get (List.getElem?_eq_getElem hl)
            obtain ⟨u2, hu2, ru2⟩ := rvf'.get (List.getElem?_eq_getElem hl2)
            rw [hx'] at hu
            rw [hy'] at hu2
            cases hu
            cases hu2
            exact ⟨[xs[i], ys[i]], .cons ru (.cons ru2 .nil), ⟨_, _, List.getElem?_eq_getElem hl, List.getElem?_eq_getElem hl2, rfl⟩, by show 2 ≤ sizeLine; decide⟩
        · have e' : c = N + 4 ∨ c = N + 2 ∨ c = N + 3 ∨ c = N ∨ c = N + 1 := by simpa using hcm
          have hle : s1.heap.objs.size ≤ c := by
            rw [hN]
            rcases e' with z | z | z | z | z <;> rw [z] <;> first | exact Nat.le_add_right _ _ | exact Nat.le_refl _
          exact I1.fpOk hle (I1.hok.fresh hle)
      rcases hq with ⟨g, gf, q⟩ | ⟨g, gf, q⟩ | ⟨g, gf, q⟩ | ⟨g, gf, q⟩
      · exact go (kdL X.K a xs) (kdL X.K b ys) g gf q
      · exact go (kdL X.K a xs) (kdT X.K b ys) g gf q
      · exact go (kdT X.K a xs) (kdL X.K b ys) g gf q
      · exact go (kdT X.K a xs) (kdT X.K b ys) g gf q
end L3

/-! own ==; zip(.., strict=True) over trees. -/
namespace L3
open PySem PySem.Spec PyProof.Rows L2
/-- x == y by the class's own __eq__ -/
def rOwn (K : PySem.W.Frag) (cs : Addr → Sp → Prop) (E : XK) : R2 := fun x y H Q => ∃ a C dx fs ty sp, x = .ref a ∧ H a = some (.ins C dx fs) ∧ TyX K H y ty ∧ PySem.W.notFirst K C ty = true ∧ cs C sp ∧ sp [x, y] H (fun v H2 => ∃ c, v = .bl c ∧ Q (.bl c) H2) E
theorem op_own {X : Cx} {CX : CXT} {k j : Nat} {E : XK} {cs : Addr → Sp → Prop} (hc : ∀ C sp, cs C sp → Cm X.prog X.w X.K X.mg X.base CX k C "__eq__" sp) (hgd : X.A.guards = some []) (hr : Room j X.A) (hk : k ≤ j) (hx : Passes CX X E) : OpR X (compareOp .Eq) (rOwn X.K cs E) := by
  intro pins s σ H x y v u Q I rx ry hq
  obtain ⟨a, C, dx, fs, ty, sp, rfl, ha, ht, hn, hsp, q⟩ := hq
  cases rx
  obtain ⟨f, fd, ps, F, hm, b⟩ := (hc _ _ hsp).ex
  obtain ⟨mA, J, _⟩ := ins_get I.hok ha
  obtain ⟨od, J, _⟩ := J.look
  obtain ⟨m, hF⟩ := I.fr
  obtain ⟨P, Z, p, _⟩ := kit_of I ry ht
  show wpAny (model X.prog X.w) X.A (richCompare .Eq (.ref a) u) (EP X pins σ Q) X.xe s
  refine PySem.W.cmp_K (op := .Eq) (tb := ty) hr.units0 hF I.ok.mod.kin J (Z.ty _ _ I.kIn p) hn hm.at_ hm.fn ?_
  have r2 : Vals [V.ref a, y] [Value.ref a, u] := .cons rfl (.cons ry .nil)
  have hb := b s [.ref a, u] I.kIn (by have := F.len _ _ _ _ q; simpa using this)
  have hb2 : BindsTo s fd ⟨[Value.ref a, u], []⟩ (ps.zip [Value.ref a, u]) := by simpa using hb
  refine wpAny_mono (run_g F hgd (hr.mono hk) hb2 hx I r2 q) (fun w s' z => ?_) fun _ _ x => x
  obtain ⟨v', H', I', rv, c, e, q'⟩ := z
  subst e
  cases rv
  exact ⟨.bl c, H', I', rfl, q'⟩
theorem kOwn {X : Cx} {K : PySem.W.Frag} {CX : CXT} {k j : Nat} {E : XK} {cs : Addr → Sp → Prop} (hc : ∀ C sp, cs C sp → Cm X.prog X.w X.K X.mg X.base CX k C "__eq__" sp) (hgd : X.A.guards = some []) (hr : Room j X.A) (hk : k ≤ j) (hx : Passes CX X E) (hK : X.K = K := by rfl) : OpR X (compareOp .Eq) (rOwn K cs E) := hK ▸ op_own hc hgd hr hk hx
theorem pi_zipTK {X : Cx} {K : PySem.W.Frag} {e e2 : Expr} {ta : TA} {p pos tpos : Pos} {elts : List Expr} {kk : Nat} {kws : List Keyword} (hg : Gl X "zip") (hm : X.mg "zip" = none) (ha : PA X [e, e2] ta) (hkw : PK X kws (tCons (tC (.bl true)) tNil)) (hK : X.K = K := by rfl)
    (hs : backTo pos (starEach [e, e2] X.env) = (false, eval e X.env) :: backTo pos (starEach [e2] X.env) := by rfl) (hpl : (backTo pos (starEach [e, e2] X.env)).any (·.1) = false := by rfl)
    (hall : (backToKw pos (keywordEach kws X.env)).all (·.1.isSome) = true := by rfl) (hno : (backToKw pos (keywordEach kws X.env)).any (·.1.isNone) = false := by rfl)
    (hks : (backToKw pos (keywordEach kws X.env)).filterMap (·.1) = [Str.ofString "strict"] := by rfl) :
    PI X (.Tuple elts kk tpos) (.Call (.Name "zip" p) [e, e2] kws pos) (iZipT K ta) := hK ▸ pi_zipT hg hm ha hkw hs hpl hall hno hks
end L3
namespace L5
open PySem PySem.Spec PyProof.Rows L2 L3
section
variable {K : PySem.W.Frag} {W W' : Wd} {S : Sto} {H : Hp} {P : AV} {Q : VK} {I : Hp} {ad : List Addr}
@[reducible] def aZipT (t : ATA) : ATI := fun ρ S R => t ρ S fun ps S1 => match ps with
  | [x, y] => onF x fun xs => onF y fun ys => xs.length = ys.length ∧ R cT (zipI xs ys) S1
  | _ => False
theorem si_zipT {t : TA} {f : ATA} (ha : SA K t f) : SI K (iZipT K t) (aZipT f) := ⟨fun {W S σ ρ H R P} I E h c =>
  ha.run I E h fun W1 S1 xs ps H1 l1 I1 r1 h1 => by
    cases r1 with
    | nil => exact h1.elim
    | cons r1 r2 => cases r2 with
      | nil => exact h1.elim
      | cons r2 r3 => cases r3 with
        | cons _ _ => exact h1.elim
        | nil =>
          obtain ⟨a, us, xs, rfl, hq, rs, h1⟩ := r1.onF (P := fun xs => onF _ fun ys => xs.length = ys.length ∧ P cT (zipI xs ys) S1) h1
          obtain ⟨b, ws, ys, rfl, hq2, rs2, hl, h1⟩ := r2.onF h1
          have hY : ∀ i it vs, (zipI xs ys)[i]? = some it → YZip us ws i vs → ∃ xs, it = .many xs ∧ VRs K W1.I W1.ad vs xs := fun i it vs e ⟨x, y, hx, hy, eu⟩ => by
            obtain ⟨p, q, hp, hq, rfl⟩ := zipI_get e
            obtain ⟨v, hv, rv⟩ := rs.get hp
            obtain ⟨v2, hv2, rv2⟩ := rs2.get hq
            rw [hx] at hv
            rw [hy] at hv2
            cases hv
            cases hv2
            subst eu
            exact ⟨_, rfl, .cons rv (.cons rv2 .nil)⟩
          have hn : (zipI xs ys).length = min us.length ws.length := by rw [zipI_len, rs.length, rs2.length]
          refine ⟨a, b, us, ws, rfl, by rw [rs.length, rs2.length, hl], ?_⟩
          rcases hq with hq | hq <;> rcases hq2 with hq2 | hq2
          · exact .inl ⟨SqL.up I1.exH hq, SqL.up I1.exH hq2, c _ _ _ _ _ _ l1 I1 (yl_u hn (fun W' S H l I' => ⟨SqL.up (l.ex.trans I'.exH) hq, SqL.up (l.ex.trans I'.exH) hq2⟩) hY) h1⟩
          · exact .inr (.inl ⟨SqL.up I1.exH hq, SqT.up I1.exH hq2, c _ _ _ _ _ _ l1 I1 (yl_u hn (fun W' S H l I' => ⟨SqL.up (l.ex.trans I'.exH) hq, SqT.up (l.ex.trans I'.exH) hq2⟩) hY) h1⟩)
          · exact .inr (.inr (.inl ⟨SqT.up I1.exH hq, SqL.up I1.exH hq2, c _ _ _ _ _ _ l1 I1 (yl_u hn (fun W' S H l I' => ⟨SqT.up (l.ex.trans I'.exH) hq, SqL.up (l.ex.trans I'.exH) hq2⟩) hY) h1⟩))
          · exact .inr (.inr (.inr ⟨SqT.up I1.exH hq, SqT.up I1.exH hq2, c _ _ _ _ _ _ l1 I1 (yl_u hn (fun W' S H l I' => ⟨SqT.up (l.ex.trans I'.exH) hq, SqT.up (l.ex.trans I'.exH) hq2⟩) hY) h1⟩))⟩
/-- x == y, x of a class with its own ==: y is an instance of a class of tab, or of a built-in type -/
inductive ownTy (x : PV) (S : Sto) (tab : Addr → Addr → Prop) (C : Addr) : Prop where
  | ty (t : Ty) (h : tyOf x S = some t)
  | cl (C' : Addr) (N : List Str) (xs : List PV) (h : insOf x S = some (C', N, xs)) (k : tab C C')
@[reducible] def aOwn (ca : Addr → AL → Prop) (tab : Addr → Addr → Prop) : A2 := fun x y S P => onIns x S fun C _ _ => onCa ca C fun g => ownTy y S tab C ∧ g [x, y] S fun v S2 => onB v fun c => P (.bl c) S2
theorem so_own {ca : Addr → AL → Prop} {tab : Addr → Addr → Prop} (h0 : ∀ C g t, ca C g → PySem.W.notFirst K C (.type (tyName t)) = true) (h1 : ∀ C C', tab C C' → PySem.W.notFirst K C (.ref C') = true) : SO K (rOwn K (csOf K ca) E0) (aOwn ca tab) := ⟨fun {W S x y p q H Q P} I r1 r2 h c => by
  obtain ⟨C, N, xs, e, g, hg, ht, h2⟩ := h
  obtain ⟨a, dx, fs, rfl, h3, h4, h5, h6, h7⟩ := r1.ins_at I e
  have go : ∀ ty, TyX K H y ty → PySem.W.notFirst K C ty = true → rOwn K (csOf K ca) E0 (.ref a) y H Q := fun ty t n =>
    ⟨a, C, dx, fs, ty, _, rfl, h3, t, n, ⟨g, hg, rfl⟩, W, S, [p, q], _, I, .cons r1 (.cons r2 .nil), h2, fun W2 S2 v pv H2 l2 I2 r3 h8 => by
      obtain ⟨k, e, h9⟩ := r3.onB h8
      exact ⟨k, e, c _ _ _ _ _ l2 I2 (.bl k) h9⟩⟩
  cases ht with
  | ty t ht => exact go _ (r2.tyx I ht) (h0 C g t hg)
  | cl C' N' ys hi hk =>
    obtain ⟨b, dy, gs, rfl, k3, k4, _⟩ := r2.ins_at I hi
    exact go _ (.base (.ins k3 k4.cl k4.ha k4.hn k4.ht k4.hm)) (h1 C C' hk)⟩
end
theorem kit_refF {K : PySem.W.Frag} {C : Addr} {n : String} (hc : PySem.W.isClsIn K C = true) (ht : PySem.W.typeIn K (.ref C) = some (.type "type")) (hs : PySem.W.subIn K (.type n) (.ref C) = some false) : PySem.W.kitOne K (.type n) (.ref C) = some false := by
  unfold PySem.W.kitOne
  rw [if_neg (by intro h; cases h)]
  show (if ((PySem.W.clsIn K C).isSome && PySem.W.typeIn K (.ref C) == some (.type "type")) = true then PySem.W.subIn K (.type n) (.ref C) else none) = some false
  have hc' : (PySem.W.clsIn K C).isSome = true := hc
  rw [hc', ht, hs]
  rfl
theorem kit_refT {K : PySem.W.Frag} {C C' : Addr} (hc : PySem.W.isClsIn K C = true) (ht : PySem.W.typeIn K (.ref C) = some (.type "type")) (hs : PySem.W.subIn K (.ref C') (.ref C) = some true) : PySem.W.kitOne K (.ref C') (.ref C) = some true := by
  unfold PySem.W.kitOne
  split
  · rfl
  · show (if ((PySem.W.clsIn K C).isSome && PySem.W.typeIn K (.ref C) == some (.type "type")) = true then PySem.W.subIn K (.ref C') (.ref C) else none) = some true
    have hc' : (PySem.W.clsIn K C).isSome = true := hc
    rw [hc', ht, hs]
    rfl
end L5

/-! tuple(range(..)), list(range(..)); a class's constants; extend, count, d.get(k, x); {} == {}. -/
namespace L3
open PySem PySem.Spec PyProof.Rows L2
section
variable {X : Cx}
def rCntF (K : PySem.W.Frag) : V → List V → Hp → VK → Prop := fun x xs H Q => ∃ (p : Addr) (ys : List V) (y : V), x = .ref p ∧ xs = [y] ∧ SqL K H p ys ∧ flatV y = true ∧ ys.all flatV = true ∧ Q (.int (ys.countP fun z => eqV z y : Nat)) H
theorem countU {y : V} : ∀ {ys : List V} {its : List Value}, Vals ys its → ys.all flatV = true → its.countP (eqU y) = ys.countP fun z => eqV z y
  | _, _, .nil, _ => rfl
  | _, _, .cons r rs, h => by
    rw [List.all_cons, Bool.and_eq_true] at h
    rw [List.countP_cons, List.countP_cons, countU rs h.2, eqU_of r h.1]
theorem mt_countF : MtR X "list.count" (rCntF X.K) := by
  intro pins s σ H x xs v us Q I rx rxs h
  obtain ⟨a, ys, y, rfl, rfl, hs, fy, fys, q⟩ := h
  cases rx
  cases rxs with
  | cons ry rt =>
    rename_i uy ut
    cases rt
    obtain ⟨its, rv, ⟨⟨cls, dd, data, sl⟩, n, ho, hc, hdn, hd⟩, hlen⟩ := I.list hs
    simp only at hc hd
    subst hc hd
    refine call_meets PySem.F.slot_list_count ⟨_, ho, rfl⟩ PySem.F.entry_list_count (PySem.F.args_list_count_2 _ _)
      (SeqAt.list_countAt a its.toArray n dd sl uy (eqU y)) ⟨ho, fun u' hu' => mem_eqAt ry fy rv fys u' (by simpa using hu'), ?_⟩
    have ec : its.toArray.toList.countP (eqU y) = ys.countP fun z => eqV z y := countU rv fys
    refine ⟨.int (ys.countP fun z => eqV z y : Nat), H, I.tok _, ⟨s.toks, ?_⟩, q⟩
    show Value.int ((its.toArray.toList.countP (eqU y) : Nat) : Int) s.toks = Value.int ((ys.countP fun z => eqV z y : Nat) : Int) s.toks
    rw [ec]
def tTupRgF (te : St → Hp → (Int → Int → Hp → Prop) → Prop) : TE := fun σ H Q => te σ H fun a b H1 => RgOk a b ∧ NewT (rgV a b) H1 Q
theorem pe_tupRgF {e : Expr} {te : St → Hp → (Int → Int → Hp → Prop) → Prop} {p pos : Pos} (hc : X.calm = true) (hg : Gl X "tuple") (hm : X.mg "tuple" = none) (he : PRg X e te) (na : starEach [e] X.env = (false, eval e X.env) :: starEach [] X.env := by rfl) : PE X (.Call (.Name "tuple" p) [e] [] pos) (tTupRgF te) := by
  refine ⟨fun pins s σ H Q I h => ?_⟩
  refine Call_ (ld_blt I hg hm boot_tuple (PyProof.Rows.callWith_type1 (args_cons (thn (he pins s σ H _ I h) fun x s1 ⟨r, a, b, t, u, v, H1, ex, hr, I1, ok, q⟩ => args_nil ?_) na) na))
  subst ex
  obtain ⟨b1, b2, b3, b4, b5⟩ := ok
  refine call_tuple_range (n := (b - a).toNat) (I1.ok.hd hc) hr (small_one b1 b2 b3 b4) (rangeSize_nat a b) b5 fun h' tk acc hk hi => ?_
  have I2 : Inv X pins σ H1 { s1 with heap := h', toks := tk } := I1.kept hk
  have := newT_run I2 (vals_rg hi) (by rw [rgV_length, sizeLine_eq]; omega) q
  rw [Array.toArray_toList] at this
  exact this
theorem cvalK {K : PySem.W.Frag} {e : Expr} {ta : TE} {f : Str} (h : PE X e (ClX.tCVal X.K ta f)) (hK : X.K = K := by rfl) : PE X e (ClX.tCVal K ta f) := hK ▸ h
/-- d[k] = v as a part of a tuple -/
def rSetD : V → V → V → Hp → (Hp → Prop) → Prop := fun o i v H Q => ∃ a H4, o = .ref a ∧ DPut H a i v H4 ∧ Q H4
theorem set_dict (hu : X.A.units + 1 < cLine) : PSet X rSetD := by
  intro pins s σ H o i v ov iv u Q I ro ri rv h
  obtain ⟨a, H4, rfl, g, q⟩ := h
  obtain rfl : ov = Value.ref a := ro
  exact d_setItem hu I g ri rv fun s4 I4 => ⟨H4, I4, q⟩
/-- two empty dicts -/
def rDE : R2 := fun x y H Q => ∃ a b, x = .ref a ∧ y = .ref b ∧ H a = some (.dK []) ∧ H b = some (.dK []) ∧ Q (.bl true) H
theorem op_de {k : Nat} (hr : Room k X.A) : OpR X (compareOp .Eq) rDE := by
  intro pins s σ H x y v u Q I rx ry h
  obtain ⟨a, b, rfl, rfl, ha, hb, q⟩ := h
  cases rx
  cases ry
  obtain ⟨_, na, vs, ra, da⟩ := dk_of I.hok ha
  obtain ⟨_, nb, ws, rb, db⟩ := dk_of I.hok hb
  have ev : vs = [] := by cases ra; rfl
  have ew : ws = [] := by cases rb; rfl
  subst ev
  subst ew
  show wpAny (model X.prog X.w) X.A (richCompare .Eq (.ref a) (.ref b)) (EP X pins σ Q) X.xe s
  exact PySem.W.rcP_dicts (r := true) na nb da db hr.units0 (fun _ => .nil) _ _ ⟨.bl true, H, I, rfl, q⟩
end
end L3
namespace L5
open PySem PySem.Spec PyProof.Rows L2 L3
section
variable {K : PySem.W.Frag} {W W' : Wd} {S : Sto} {H : Hp} {P : AV} {Q : VK} {I : Hp} {ad : List Addr}
variable {te ta tb : TE} {fa fb fc : ATE}
@[reducible] def vExtend : AM := fun x ys S P => on1 ys fun y => onK x S fun k xs => onL (lw y S) fun zs => xs.length + zs.length ≤ sizeLine ∧ P .non (sput S k (xs ++ zs))
theorem sm_extend : SM K rExtend vExtend := ⟨fun I r rs h c => by
  obtain ⟨v, p, rfl, rfl, r2, h⟩ := rs.on1 h
  obtain ⟨a, us, k, xs, rfl, rfl, e, r3, _, up, h⟩ := r.onK I h
  obtain ⟨zs, e2, hz, h⟩ := onL_of h
  obtain ⟨b, ws, rfl, hb, rb⟩ := r2.lw I e2
  exact ⟨a, b, us, ws, rfl, rfl, e, hb, by rw [r3.length, rb.length]; exact hz, c.at (up _ _ (r3.append rb)) .non h⟩⟩
/-- the ints a .. b - 1 -/
def rgP (a b : Int) : List PV := iL ((List.range (b - a).toNat).map fun i : Nat => a + (i : Int))
theorem rg_rel (a b : Int) : VRs K I ad (rgV a b) (rgP a b) := by
  have e : rgV a b = ((List.range (b - a).toNat).map fun i : Nat => a + (i : Int)).map V.int := by
    unfold rgV
    rw [List.map_map]
    rfl
  rw [e]
  exact VRs.ints _
theorem rg_len (a b : Int) : (rgP a b).length = (b - a).toNat := by unfold rgP; rw [List.length_map, List.length_map, List.length_range]
@[reducible] def aTupRg2 (a b : ATE) : ATE := fun ρ S P => a ρ S fun x S1 => b ρ S1 fun y S2 => onI2 x y fun i j => RgOk i j ∧ P (.tup (rgP i j)) S2
@[reducible] def aLstRg2 (a b : ATE) : ATE := fun ρ S P => a ρ S fun x S1 => b ρ S1 fun y S2 => onI2 x y fun i j => RgOk i j ∧ P (.lst (rgP i j)) S2
theorem se_tupRg2 (ha : SE K ta fa) (hb : SE K tb fb) : SE K (tTupRgF (tRg2 ta tb)) (aTupRg2 fa fb) := ⟨fun I E h c =>
  ha.run I E h fun W1 S1 x p H1 l1 I1 r1 h1 => hb.run I1 (E.up l1.toLo) h1 fun W2 S2 y q H2 l2 I2 r2 h2 => by
    obtain ⟨i, j, rfl, rfl, hk, h3⟩ := (r1.up l2.toLo).onI2 r2 h2
    exact ⟨i, j, rfl, rfl, hk, I2.newT (rg_rel i j) (c.up (l1.trans l2)) h3⟩⟩
theorem se_lstRg2 (ha : SE K ta fa) (hb : SE K tb fb) : SE K (tLstRg (tRg2 ta tb)) (aLstRg2 fa fb) := ⟨fun I E h c =>
  ha.run I E h fun W1 S1 x p H1 l1 I1 r1 h1 => hb.run I1 (E.up l1.toLo) h1 fun W2 S2 y q H2 l2 I2 r2 h2 => by
    obtain ⟨i, j, rfl, rfl, hk, h3⟩ := (r1.up l2.toLo).onI2 r2 h2
    exact ⟨i, j, rfl, rfl, hk, I2.newL (rg_rel i j) (c.up (l1.trans l2)) h3⟩⟩
/-- a class's constant -/
theorem se_cval {C : Addr} {f : Str} {i : Int} (h : ∃ mc w, ClX.CRead K C mc ∧ ClX.CVal K C mc f (.int i) w) : SE K (ClX.tCVal K (tC (.ref C)) f) (aC (.int i)) := ⟨fun I E z c => by
  obtain ⟨mc, w, h1, h2⟩ := h
  exact ⟨C, mc, _, w, rfl, h1, h2, c.at I (.int i) z⟩⟩
/-- d.get(k, x) -/
inductive dGet (ks : List Key) (xs : List PV) (k : Key) (z : PV) (P : PV → Prop) : Prop where
  | hit (i : Nat) (p : PV) (h1 : ks[i]? = some k) (h2 : xs[i]? = some p) (h : P p)
  | miss (h1 : k ∉ ks) (h : P z)
theorem dget_none {k : Key} {kvs : List (Key × V)} (h : k ∉ kvs.map Prod.fst) : valV kvs k = none := val_none h
@[reducible] def aDGet2 (d k e : ATE) : ATE := fun ρ S P => d ρ S fun x S1 => onD (dctOf x S1) fun _ _ => k ρ S1 fun y S2 => e ρ S2 fun z S3 => onD (dctOf x S3) fun ks xs => onKey y fun k => dGet ks xs k z fun v => P v S3
theorem se_dget2 {tc : TE} (ha : SE K ta fa) (he : SE K tb fb) (hx : SE K tc fc) : SE K (tDGet2 ta tb tc) (aDGet2 fa fb fc) := ⟨fun I E h c =>
  ha.run I E h fun W1 S1 x p H1 l1 I1 r1 ⟨ks0, xs0, e0, h1⟩ => by
    obtain ⟨a, kvs0, rfl, h30, _, _, _⟩ := r1.dct_at I1 e0
    refine ⟨a, rfl, .inl ⟨kvs0, .of h30⟩, he.run I1 (E.up l1.toLo) h1 fun W2 S2 y q H2 l2 I2 r2 h2 => hx.run I2 (E.up (l1.trans l2).toLo) h2 fun W3 S3 z pz H3 l3 I3 r3 ⟨ks, xs, e, h4⟩ => ?_⟩
    obtain ⟨a', kvs, ea, h3, h5, h6, h7⟩ := ((r1.up l2.toLo).up l3.toLo).dct_at I3 e
    cases ea
    obtain ⟨k, rfl, hd⟩ := (r2.up l3.toLo).onKey h4
    refine ⟨valV kvs k, .k h3, ?_⟩
    cases hd with
    | hit i p hi hz hp =>
      obtain ⟨v, hv, rv⟩ := dget_at h5 h6 h7 hi hz
      rw [hv]
      exact c _ _ _ _ _ ((l1.trans l2).trans l3) I3 rv hp
    | miss hn hp =>
      rw [val_none (by rw [h5]; exact hn)]
      exact c _ _ _ _ _ ((l1.trans l2).trans l3) I3 r3 hp⟩
/-- l.count(b), l a list of bools -/
@[reducible] def onBl (y : PV) (P : Bool → Prop) : Prop := match y with
  | .bl b => P b
  | _ => False
@[reducible] def vCountB : AM := fun x ys S P => on1 ys fun y => onL (lv x S) fun xs => onBl y fun b => blsOf xs fun ns => P (.int (ns.count b : Nat)) S
theorem countP_bls (b : Bool) : ∀ ns : List Bool, (ns.map V.bl).countP (fun z => eqV z (.bl b)) = ns.count b
  | [] => rfl
  | n :: ns => by
    rw [List.map_cons, List.countP_cons, countP_bls b ns, List.count_cons]
    rfl
theorem all_bls : ∀ ns : List Bool, (ns.map V.bl).all flatV = true
  | [] => rfl
  | n :: ns => by rw [List.map_cons, List.all_cons, all_bls ns]; rfl
theorem sm_countB : SM K (rCntF K) vCountB := ⟨fun {W S x p xs ps H Q P} I r rs h c => by
  obtain ⟨v, q, rfl, rfl, r2, h⟩ := rs.on1 h
  obtain ⟨ys, e, h⟩ := onL_of h
  cases q with
  | bl b =>
    obtain ⟨ns, rfl, h⟩ := h
    obtain ⟨a, us, rfl, hq, r3⟩ := r.lv I e
    have eu := r3.bls_of
    subst eu
    cases r2
    exact ⟨a, _, _, rfl, rfl, hq, rfl, all_bls ns, by rw [countP_bls]; exact c.at I (.int _) h⟩
  | _ => exact h.elim⟩
@[reducible] def gaSubD (d k : ATE) : AG := fun it ρ S P => match it with
  | .one z => d ρ S fun x S1 => k ρ S1 fun y S2 => onOwnD x S2 fun n ks xs => onKey y fun k => dPut ks xs k z fun ks' xs' => P ρ (spo S2 n (.dct ks' xs'))
  | _ => False
theorem sg_subD (ha : SE K ta fa) (he : SE K tb fb) : SG K (gSub ta tb rSetD) (gaSubD fa fb) [] := ⟨fun {W S σ ρ H v it R P} I E r h c => by
  cases r with
  | many _ _ => exact h.elim
  | one r =>
    exact ha.run I E h fun W1 S1 x p H1 l1 I1 r1 h1 => he.run I1 (E.up l1.toLo) h1 fun W2 S2 y q H2 l2 I2 r2 ⟨n, ks, xs, ep, e, hn, h3⟩ => by
      subst ep
      have l := l1.trans l2
      obtain ⟨a, kvs, rfl, h4, h5, h6, h7, up⟩ := I2.atD (r1.up l2.toLo) (sgetD_eq e)
      obtain ⟨k, rfl, h8⟩ := r2.onKey h3
      have hl : kvs.length < sizeLine := by
        have e1 := congrArg List.length h5
        rw [List.length_map] at e1
        rw [e1, sizeLine_eq]
        omega
      refine ⟨a, _, rfl, .k h4 hl, ?_⟩
      rcases h8 with ⟨i, hi, h8⟩ | ⟨hk, _, h8⟩
      · obtain ⟨g1, g2⟩ := dput_at h5 h6 h7 (nthK_eq hi) (r.up l.toLo)
        exact c _ _ _ _ _ l (by rw [spo_eq]; exact up _ _ _ g1 h6 g2) (E.up l.toLo) (Fx.refl σ) h8
      · rw [snc_eq, snc_eq] at h8
        obtain ⟨g1, g2, g3⟩ := dput_new h5 h6 h7 hk (r.up l.toLo)
        exact c _ _ _ _ _ l (by rw [spo_eq]; exact up _ _ _ g1 g2 g3) (E.up l.toLo) (Fx.refl σ) h8⟩
/-- i // j, j of more than one digit -/
@[reducible] def vFdivW : A2 := fun x y S P => onI2 x y fun i j => (0 < j ∧ j < 1000000000000000000) ∧ P (.int (i / j)) S
theorem so_fdivW : SO K (rI CDivW fun i j => .int (i / j)) vFdivW := ⟨fun I r1 r2 h c => by
  obtain ⟨i, j, e, e2, ⟨h1, h2⟩, h⟩ := r1.onI2 r2 h
  exact ⟨i, j, e, e2, wide_div (b := 60) h1 (by have : (2 : Nat) ^ 60 = 1152921504606846976 := by decide
                                                omega) (by decide) (by decide), c.at I (.int _) h⟩⟩
@[reducible] def vDE : A2 := fun x y S P => onD (dctOf x S) fun ks _ => onD (dctOf y S) fun ms _ => ks = [] ∧ ms = [] ∧ P (.bl true) S
theorem so_de : SO K rDE vDE := ⟨fun I r1 r2 h c => by
  obtain ⟨ks, xs, e, ms, ys, e2, h1, h2, h3⟩ := h
  obtain ⟨a, kvs, rfl, k1, k2, _, _⟩ := r1.dct_at I e
  obtain ⟨b, kws, rfl, m1, m2, _, _⟩ := r2.dct_at I e2
  subst h1
  subst h2
  rw [List.map_eq_nil_iff] at k2 m2
  subst k2
  subst m2
  exact ⟨a, b, rfl, rfl, k1, m1, c.at I (.bl true) h3⟩⟩
end
end L5

/-! repr of data with dicts whose keys are ints and texts; t == (), l == [] whatever is in them. -/
namespace L3
open PySem PySem.Spec PyProof.Rows L2
mutual
/-- what a value reads as; no dict is sys.modules -/
inductive Rn (h : Heap) : Value → PyData → Prop
  | non : Rn h .none .none
  | bl (b : Bool) : Rn h (.bool b) (.bool b)
  | int (i : Int) (t : Tok) : Rn h (.int i t) (.int i)
  | str (x : Str) (t : Tok) : Rn h (.str x t) (.str x)
  | lst {a : Addr} {o : Obj} {vs : Array Value} {n : Nat} {xs : List PyData} (h1 : h.get? a = some o) (h2 : o.cls = .type "list") (h3 : o.data = .seq vs n) (h4 : RnA h vs.toList xs) : Rn h (.ref a) (.list xs)
  | tup {a : Addr} {o : Obj} {vs : Array Value} {n : Nat} {xs : List PyData} (h1 : h.get? a = some o) (h2 : o.cls = .type "tuple") (h3 : o.data = .seq vs n) (h4 : RnA h vs.toList xs) : Rn h (.ref a) (.tuple xs)
  | dct {a : Addr} {o : Obj} {es : Array DictEntry} {n : Nat} {kvs : List (PyData × PyData)} (h1 : h.get? a = some o) (h2 : o.cls = .type "dict") (h3 : o.data = .dict es n) (h0 : (a == sysModules) = false)
      (h4 : RnA h (es.toList.map (·.key)) (kvs.map (·.1))) (h5 : RnA h (es.toList.map (·.val)) (kvs.map (·.2))) : Rn h (.ref a) (.dict kvs)
inductive RnA (h : Heap) : List Value → List PyData → Prop
  | nil : RnA h [] []
  | cons {v : Value} {vs : List Value} {d : PyData} {ds : List PyData} (h1 : Rn h v d) (h2 : RnA h vs ds) : RnA h (v :: vs) (d :: ds)
end
section
variable {h₀ : Heap} {prog : Program} {w : World}
mutual
theorem Rn.reads : ∀ {v : Value} {d : PyData}, Rn h₀ v d → ∃ as, Reads h₀ v d as
  | _, _, .non => ⟨_, .none⟩
  | _, _, .bl b => ⟨_, .bool b⟩
  | _, _, .int i t => ⟨_, .int i t⟩
  | _, _, .str x t => ⟨_, .str x t⟩
  | _, _, .lst h1 h2 h3 h4 => let ⟨_, r⟩ := RnA.reads h4; ⟨_, .list h1 h2 h3 r⟩
  | _, _, .tup h1 h2 h3 h4 => let ⟨_, r⟩ := RnA.reads h4; ⟨_, .tuple h1 h2 h3 r⟩
  | _, _, .dct h1 h2 h3 _ h4 h5 => let ⟨_, r⟩ := RnA.reads h4; let ⟨_, r2⟩ := RnA.reads h5; ⟨_, .dict h1 h2 h3 r r2⟩
theorem RnA.reads : ∀ {vs : List Value} {ds : List PyData}, RnA h₀ vs ds → ∃ as, ReadsAll h₀ vs ds as
  | _, _, .nil => ⟨_, .nil⟩
  | _, _, .cons h1 h2 => let ⟨_, r⟩ := Rn.reads h1; let ⟨_, r2⟩ := RnA.reads h2; ⟨_, .cons r r2⟩
end
mutual
/-- what the shown text of such a value needs -/
theorem Rn.show : ∀ {v : Value} {d : PyData}, Rn h₀ v d → d.showable = true → d.shown.length ≤ sizeLine → ∃ bs, ReadAtMost h₀ d.depth bs ∧ ReprK prog w bs h₀ d.depth v d.shown
  | _, _, .non, _, _ => ⟨[], fun _ q => (nomatch q), by rw [PyData.shown]; exact .of_is ReprIs.none [] h₀ _⟩
  | _, _, .bl b, _, _ => ⟨[], fun _ q => (nomatch q), by rw [PyData.shown]; exact .of_is (ReprIs.bool b) [] h₀ _⟩
  | _, _, .int i t, hs, _ => ⟨[], fun _ q => (nomatch q), by rw [PyData.shown]; exact .of_is (ReprIs.int t (by simpa [PyData.showable] using hs)) [] h₀ _⟩
  | _, _, .str x t, _, hz => ⟨[], fun _ q => (nomatch q), by rw [PyData.shown] at hz ⊢; exact .of_is (ReprIs.str x t hz) [] h₀ _⟩
  | _, _, .lst (a := a) (vs := vs) (xs := xs) h1 h2 h3 h4, hs, hz => by
    rw [PyData.shown] at hz
    rw [PyData.showable] at hs
    obtain ⟨bs, hb, hk⟩ := RnA.show h4 hs fun t ht => Nat.le_trans (listText_mem_le ht) hz
    obtain ⟨as, r4⟩ := RnA.reads h4
    have r : Reads h₀ (.ref a) (.list xs) _ := .list h1 h2 h3 r4
    have hna : a ∉ bs := not_mem_of_deeper r (by rw [PyData.depth]; omega) hb
    refine ⟨a :: bs, .cons r (by rw [PyData.depth]; omega) hb, ?_⟩
    rw [PyData.depth, PyData.shown]
    obtain ⟨l⟩ := vs
    cases l with
    | nil =>
      have h5 : RnA h₀ [] xs := h4
      cases h5
      rw [PyData.shownAll, listText_nil]
      exact .listEmpty h1 h2 h3
    | cons x l => exact .list h1 h2 h3 hna (by simpa using hk.length_eq) fun i y e => hk.item i y (by simpa using e)
  | _, _, .tup (a := a) (xs := xs) h1 h2 h3 h4, hs, hz => by
    rw [PyData.shown] at hz
    rw [PyData.showable] at hs
    obtain ⟨bs, hb, hk⟩ := RnA.show h4 hs fun t ht => Nat.le_trans (tupleText_mem_le ht) hz
    obtain ⟨as, r4⟩ := RnA.reads h4
    have r : Reads h₀ (.ref a) (.tuple xs) _ := .tuple h1 h2 h3 r4
    have hna : a ∉ bs := not_mem_of_deeper r (by rw [PyData.depth]; omega) hb
    refine ⟨a :: bs, .cons r (by rw [PyData.depth]; omega) hb, ?_⟩
    rw [PyData.depth, PyData.shown]
    exact .tuple h1 h2 h3 hna hk
  | _, _, .dct (a := a) (es := es) (kvs := kvs) h1 h2 h3 h0 h4 h5, hs, hz => by
    rw [PyData.shown] at hz
    rw [PyData.showable] at hs
    obtain ⟨s1, s2⟩ := PyData.showableKv_split kvs hs
    obtain ⟨b1, q1, k1⟩ := RnA.show h4 s1 fun t ht => by
      obtain ⟨p, hp, hl⟩ := PyData.shownKv_key_le kvs t ht
      exact Nat.le_trans hl (Nat.le_trans (dictText_mem_le hp) hz)
    obtain ⟨b2, q2, k2⟩ := RnA.show h5 s2 fun t ht => by
      obtain ⟨p, hp, hl⟩ := PyData.shownKv_val_le kvs t ht
      exact Nat.le_trans hl (Nat.le_trans (dictText_mem_le hp) hz)
    obtain ⟨as1, r1⟩ := RnA.reads h4
    obtain ⟨as2, r2⟩ := RnA.reads h5
    have r : Reads h₀ (.ref a) (.dict kvs) _ := .dict h1 h2 h3 r1 r2
    have q := (q1.mono (PyData.depthAll_keys_le kvs)).append (q2.mono (PyData.depthAll_vals_le kvs))
    have hna : a ∉ b1 ++ b2 := not_mem_of_deeper r (by rw [PyData.depth]; omega) q
    refine ⟨a :: (b1 ++ b2), .cons r (by rw [PyData.depth]; omega) q, ?_⟩
    rw [PyData.depth, PyData.shown, PyData.shownKv_eq]
    exact .dict h1 h2 h3 h0 hna (.of_two es.toList _ _ (k1.more_le (fun b m => List.mem_append_left _ m) (PyData.depthAll_keys_le kvs)) (k2.more_le (fun b m => List.mem_append_right _ m) (PyData.depthAll_vals_le kvs)))
theorem RnA.show : ∀ {vs : List Value} {ds : List PyData}, RnA h₀ vs ds → PyData.showableAll ds = true → (∀ t ∈ PyData.shownAll ds, t.length ≤ sizeLine) → ∃ bs, ReadAtMost h₀ (PyData.depthAll ds) bs ∧ ReprAllK prog w bs h₀ (PyData.depthAll ds) vs (PyData.shownAll ds)
  | _, _, .nil, _, _ => ⟨[], fun _ q => (nomatch q), by rw [PyData.shownAll]; exact .nil⟩
  | _, _, .cons (d := d) (ds := ds) h1 h2, hs, hz => by
    rw [PyData.showableAll, Bool.and_eq_true] at hs
    rw [PyData.shownAll] at hz
    obtain ⟨b1, q1, k1⟩ := Rn.show h1 hs.1 (hz _ List.mem_cons_self)
    obtain ⟨b2, q2, k2⟩ := RnA.show h2 hs.2 fun t ht => hz t (List.mem_cons_of_mem _ ht)
    rw [PyData.depthAll, PyData.shownAll]
    exact ⟨b1 ++ b2, (q1.mono (Nat.le_max_left _ _)).append (q2.mono (Nat.le_max_right _ _)), .cons ((k1.more fun b m => List.mem_append_left _ m).level_le (Nat.le_max_left _ _)) (k2.more_le (fun b m => List.mem_append_right _ m) (Nat.le_max_right _ _))⟩
end
variable {A : Around} {E : Value → Shared → Prop} {s : Shared}
theorem repr_rn : ∀ {v : Value} {d : PyData} {Q : Value → Shared → Prop}, Rn s.heap v d → d.showable = true → A.guards = some [] → A.units + 1 + d.depth < cLine → d.shown.length ≤ sizeLine →
    (∀ h' tk u, (∀ b o, s.heap.get? b = some o → h'.get? b = some o) → Q (.str d.shown u) { s with heap := h', toks := tk }) → wpAny (model prog w) A (call (.builtin "repr") [v]) Q E s
  | _, _, Q, .non, _, _, _, _, hQ => PySem.P.repr_of_none (by rw [PyData.shown] at hQ; exact hQ s.heap _ _ fun _ _ e => e)
  | _, _, Q, .bl b, _, _, _, _, hQ => PySem.P.repr_of_bool (by rw [PyData.shown] at hQ; exact hQ s.heap _ _ fun _ _ e => e)
  | _, _, Q, .int i t, hs, _, _, _, hQ => PySem.P.repr_of_int (by simpa [PyData.showable] using hs) (by rw [PyData.shown] at hQ; exact hQ s.heap _ _ fun _ _ e => e)
  | _, _, Q, .str x t, _, _, _, hz, hQ => PySem.P.repr_of_str (by rw [PyData.shown] at hQ; exact hQ s.heap _ _ fun _ _ e => e) (by rw [PyData.shown] at hz; exact hz)
  | _, _, Q, .lst (a := a) (vs := vs) (xs := xs) h1 h2 h3 h4, hs, hg, hu, hz, hQ => by
    rw [PyData.shown] at hz hQ
    rw [PyData.showable] at hs
    obtain ⟨bs, hb, hk⟩ := RnA.show (prog := prog) (w := w) h4 hs fun t ht => Nat.le_trans (listText_mem_le ht) hz
    obtain ⟨as, r4⟩ := RnA.reads h4
    have r : Reads s.heap (.ref a) (.list xs) _ := .list h1 h2 h3 r4
    have hna : a ∉ bs := not_mem_of_deeper r (by rw [PyData.depth]; omega) hb
    rw [PyData.depth] at hu
    have hTy : s.TypeIs (.ref a) "list" := ⟨_, h1, h2⟩
    refine PySem.call_repr_slot (by omega) hTy F.slot_list_repr.toG ?_
    obtain ⟨l⟩ := vs
    cases l with
    | nil =>
      have h5 : RnA s.heap [] xs := h4
      cases h5
      rw [PyData.shownAll, listText_nil] at hQ
      exact call_list_repr_empty hTy h1 h3 ⟨_, _, rfl, hQ s.heap _ _ fun _ _ e => e⟩
    | cons x l => exact call_list_reprK h1 h2 h3 hna (by simpa using hk.length_eq) (fun i y e => hk.item i y (by simpa using e)) hg (fun b _ => Clear.nil b) (by show A.units + 1 + _ < _; omega) (fun _ _ e => e) (fun h' u tk k2 => ⟨_, _, rfl, hQ h' tk u k2⟩) hz
  | _, _, Q, .tup (a := a) (xs := xs) h1 h2 h3 h4, hs, hg, hu, hz, hQ => by
    rw [PyData.shown] at hz hQ
    rw [PyData.showable] at hs
    obtain ⟨bs, hb, hk⟩ := RnA.show (prog := prog) (w := w) h4 hs fun t ht => Nat.le_trans (tupleText_mem_le ht) hz
    obtain ⟨as, r4⟩ := RnA.reads h4
    have r : Reads s.heap (.ref a) (.tuple xs) _ := .tuple h1 h2 h3 r4
    have hna : a ∉ bs := not_mem_of_deeper r (by rw [PyData.depth]; omega) hb
    rw [PyData.depth] at hu
    have hTy : s.TypeIs (.ref a) "tuple" := ⟨_, h1, h2⟩
    refine PySem.call_repr_slot (by omega) hTy F.slot_tuple_repr ?_
    exact call_tuple_reprK h1 h2 h3 hna hk hg (fun b _ => Clear.nil b) (by show A.units + 1 + _ < _; omega) (fun _ _ e => e) (fun h' u tk k2 => ⟨_, _, rfl, hQ h' tk u k2⟩) hz
  | _, _, Q, .dct (a := a) (es := es) (kvs := kvs) h1 h2 h3 h0 h4 h5, hs, hg, hu, hz, hQ => by
    have r0 : Rn s.heap (.ref a) (.dict kvs) := .dct h1 h2 h3 h0 h4 h5
    rw [PyData.shown] at hz hQ
    rw [PyData.showable] at hs
    obtain ⟨s1, s2⟩ := PyData.showableKv_split kvs hs
    obtain ⟨b1, q1, k1⟩ := RnA.show (prog := prog) (w := w) h4 s1 fun t ht => by
      obtain ⟨p, hp, hl⟩ := PyData.shownKv_key_le kvs t ht
      exact Nat.le_trans hl (Nat.le_trans (dictText_mem_le hp) hz)
    obtain ⟨b2, q2, k2⟩ := RnA.show (prog := prog) (w := w) h5 s2 fun t ht => by
      obtain ⟨p, hp, hl⟩ := PyData.shownKv_val_le kvs t ht
      exact Nat.le_trans hl (Nat.le_trans (dictText_mem_le hp) hz)
    obtain ⟨as, r⟩ := r0.reads
    have q := (q1.mono (PyData.depthAll_keys_le kvs)).append (q2.mono (PyData.depthAll_vals_le kvs))
    have hna : a ∉ b1 ++ b2 := not_mem_of_deeper r (by rw [PyData.depth]; omega) q
    rw [PyData.depth] at hu
    rw [PyData.shownKv_eq] at hz hQ
    have hTy : s.TypeIs (.ref a) "dict" := ⟨_, h1, h2⟩
    refine PySem.call_repr_slot (by omega) hTy F.slot_dict_repr ?_
    exact call_dict_reprK h1 h2 h3 h0 hna (.of_two es.toList _ _ (k1.more_le (fun b m => List.mem_append_left _ m) (PyData.depthAll_keys_le kvs)) (k2.more_le (fun b m => List.mem_append_right _ m) (PyData.depthAll_vals_le kvs))) hg (fun b _ => Clear.nil b) (by show A.units + 1 + _ < _; omega) (fun _ _ e => e) (fun h' u tk k2 => ⟨_, _, rfl, hQ h' tk u k2⟩) hz
end
/-- a key as data -/
def keyD : Key → PyData
  | .inl i => .int i
  | .inr x => .str x
mutual
/-- what a value is, as data, dicts with int and text keys among it -/
inductive Dq (K : PySem.W.Frag) (H : Hp) : V → PyData → Prop
  | non : Dq K H .non .none
  | bl (b : Bool) : Dq K H (.bl b) (.bool b)
  | int (i : Int) : Dq K H (.int i) (.int i)
  | str (x : Str) : Dq K H (.str x) (.str x)
  | lst {a : Addr} {xs : List V} {ds : List PyData} (h : SqL K H a xs) (h2 : DqA K H xs ds) : Dq K H (.ref a) (.list ds)
  | tup {a : Addr} {xs : List V} {ds : List PyData} (h : SqT K H a xs) (h2 : DqA K H xs ds) : Dq K H (.ref a) (.tuple ds)
  | dct {a : Addr} {kvs : List (Key × V)} {ds : List PyData} (h : Rd H a (.dK kvs)) (h2 : DqA K H (kvs.map Prod.snd) ds) : Dq K H (.ref a) (.dict ((kvs.map fun x => keyD x.1).zip ds))
inductive DqA (K : PySem.W.Frag) (H : Hp) : List V → List PyData → Prop
  | nil : DqA K H [] []
  | cons {v : V} {vs : List V} {d : PyData} {ds : List PyData} (h1 : Dq K H v d) (h2 : DqA K H vs ds) : DqA K H (v :: vs) (d :: ds)
end
theorem DqA.len {K : PySem.W.Frag} {H : Hp} : ∀ {vs : List V} {ds : List PyData}, DqA K H vs ds → vs.length = ds.length
  | _, _, .nil => rfl
  | _, _, .cons _ h => by rw [List.length_cons, List.length_cons, h.len]
/-- the entries of a dict -/
theorem rn_keys {P : Program} {w : World} {h : Heap} : ∀ {es : List DictEntry} {kvs : List (Key × V)} {vs : List (Key × Value)}, Pairs (mixKind P w) es vs → KV kvs vs → RnA h (es.map (·.key)) (kvs.map fun x => keyD x.1) ∧ Vals (kvs.map Prod.snd) (es.map (·.val))
  | _, _, _, .nil, .nil => ⟨.nil, .nil⟩
  | _, _, _, .cons h1 h2 h3, .cons ⟨e, r⟩ hr => by
    obtain ⟨q1, q2⟩ := rn_keys (h := h) h3 hr
    refine ⟨.cons ?_ q1, .cons (by show L2.RelV _ (DictEntry.val _); rw [h2]; exact r) q2⟩
    show Rn h (DictEntry.key _) (keyD (Prod.fst _))
    rw [e]
    rcases keyIs_shape h1 with ⟨i, t, e1, e2⟩ | ⟨x, t, e1, e2⟩
    · rw [e1, e2]
      exact .int i t
    · rw [e1, e2]
      exact .str x t
section
variable {X : Cx} {pins : List (Addr × Obj)} {σ : St} {H : Hp} {s : Shared}
mutual
theorem Dq.rn (I : Inv X pins σ H s) : ∀ {d : PyData} {v : V} {u : Value}, Dq X.K H v d → RelV v u → Rn s.heap u d
  | _, _, _, .non, r => by cases r; exact .non
  | _, _, _, .bl b, r => by cases r; exact .bl b
  | _, _, _, .int i, r => by obtain ⟨t, rfl⟩ := r; exact .int i t
  | _, _, _, .str x, r => by obtain ⟨t, rfl⟩ := r; exact .str x t
  | _, _, _, .lst h h2, r => by
    cases r
    obtain ⟨its, rv, ⟨o, n, ho, hc, _, hd⟩, _⟩ := I.list h
    exact .lst ho hc hd (DqA.rn I h2 rv)
  | _, _, _, .tup h h2, r => by
    cases r
    obtain ⟨its, rv, ⟨o, h1, h3, n, h4⟩, _⟩ := I.tuple h
    exact .tup h1 h3 h4 (DqA.rn I h2 rv)
  | _, _, _, .dct h h2, r => by
    cases r
    obtain ⟨_, hs, vs, rel, o, es, ep, ho, hx, hd, _, hp, _⟩ := dk_rd I.hok h
    obtain ⟨q1, q2⟩ := rn_keys (h := s.heap) hp rel
    have hl := h2.len
    rw [List.length_map] at hl
    refine .dct ho hx.1 hd hs ?_ ?_
    · rw [List.map_fst_zip (by rw [List.length_map]; omega)]
      exact q1
    · rw [List.map_snd_zip (by rw [List.length_map]; omega)]
      exact DqA.rn I h2 q2
theorem DqA.rn (I : Inv X pins σ H s) : ∀ {ds : List PyData} {vs : List V} {us : List Value}, DqA X.K H vs ds → Vals vs us → RnA s.heap us ds
  | _, _, _, .nil, .nil => .nil
  | _, _, _, .cons h1 h2, .cons r1 r2 => .cons (Dq.rn I h1 r1) (DqA.rn I h2 r2)
end
end
def rReprQ (K : PySem.W.Frag) : List V → Hp → VK → Prop := fun xs H Q => ∃ x d, xs = [x] ∧ Dq K H x d ∧ d.showable = true ∧ d.depth ≤ 60 ∧ d.shown.length ≤ sizeLine ∧ Q (.str d.shown) H
theorem call_reprQ {X : Cx} (hg : X.A.guards = some []) (hu : X.A.units + 64 < cLine) : CallR X (.builtin "repr") (rReprQ X.K) := by
  intro pins s σ H xs us Q I r h
  obtain ⟨x, d, rfl, hd, hs, hdp, hz, q⟩ := h
  obtain ⟨u, rfl, ru⟩ := vals1 r
  exact repr_rn (Dq.rn I hd ru) hs hg (by omega) hz fun h' tk t hk => ⟨.str _, H, I.kept hk, ⟨_, rfl⟩, q⟩
/-- t == (), l == [] -/
def nilPair (K : PySem.W.Frag) (H : Hp) (a b : Addr) (xs : List V) : Prop := (SqT K H a xs ∧ SqT K H b []) ∨ (SqL K H a xs ∧ SqL K H b [])
def rEqNil (K : PySem.W.Frag) : R2 := fun x y H Q => ∃ a b xs, x = .ref a ∧ y = .ref b ∧ nilPair K H a b xs ∧ Q (.bl xs.isEmpty) H
def rNeNil (K : PySem.W.Frag) : R2 := fun x y H Q => ∃ a b xs, x = .ref a ∧ y = .ref b ∧ nilPair K H a b xs ∧ Q (.bl (!xs.isEmpty)) H
theorem nil_vals {us : List Value} (r : Vals [] us) : us = [] := by cases r; rfl
theorem nil_all {xs : List V} {us : List Value} (r : Vals xs us) : ((List.range (min us.toArray.size ([] : List Value).toArray.size)).all (fun _ => true) && us.toArray.size == ([] : List Value).toArray.size) = xs.isEmpty := by
  cases r <;> simp
theorem op_eqNil {X : Cx} {k : Nat} (hr : Room k X.A) : OpR X (compareOp .Eq) (rEqNil X.K) := by
  intro pins s σ H x y v u Q I rx ry h
  obtain ⟨a, b, xs, rfl, rfl, h, q⟩ := h
  cases (show v = Value.ref a from rx)
  cases (show u = Value.ref b from ry)
  have hu := hr.units0
  rcases h with ⟨h1, h2⟩ | ⟨h1, h2⟩
  · obtain ⟨us, r1, p1, _⟩ := I.tuple h1
    obtain ⟨ws, r2, p2, _⟩ := I.tuple h2
    have e := nil_vals r2
    subst e
    have z := SeqAt.RcAt.tuples (A := X.A) (s := s) (e := fun _ => true) p1 p2 hu (fun j _ j2 => absurd j2 (Nat.not_lt_zero j))
    rw [nil_all r1] at z
    exact z X.prog X.w X.xe _ ⟨.bl _, H, I, rfl, q⟩
  · obtain ⟨us, r1, p1, _⟩ := I.list h1
    obtain ⟨ws, r2, p2, _⟩ := I.list h2
    have e := nil_vals r2
    subst e
    cases r1 with
    | nil =>
      have z := SeqAt.RcAt.lists (A := X.A) (s := s) (e := fun _ => true) p1.isList p2.isList rfl hu (fun j _ j2 => absurd j2 (Nat.not_lt_zero j))
      exact z X.prog X.w X.xe _ ⟨.bl _, H, I, rfl, q⟩
    | cons r rs =>
      have z := SeqAt.RcAt.lists_lengths (A := X.A) (s := s) p1.isList p2.isList rfl hu
      exact z X.prog X.w X.xe _ ⟨.bl _, H, I, rfl, q⟩
theorem op_neNil {X : Cx} {k : Nat} (hr : Room k X.A) : OpR X (compareOp .NotEq) (rNeNil X.K) := by
  intro pins s σ H x y v u Q I rx ry h
  obtain ⟨a, b, xs, rfl, rfl, h, q⟩ := h
  cases (show v = Value.ref a from rx)
  cases (show u = Value.ref b from ry)
  have hu := hr.units0
  rcases h with ⟨h1, h2⟩ | ⟨h1, h2⟩
  · obtain ⟨us, r1, p1, _⟩ := I.tuple h1
    obtain ⟨ws, r2, p2, _⟩ := I.tuple h2
    have e := nil_vals r2
    subst e
    have z := SeqAt.RcNeAt.tuples (A := X.A) (s := s) (e := fun _ => true) p1 p2 hu (fun j _ j2 => absurd j2 (Nat.not_lt_zero j))
    rw [nil_all r1] at z
    exact z X.prog X.w X.xe _ ⟨.bl _, H, I, rfl, q⟩
  · obtain ⟨us, r1, p1, _⟩ := I.list h1
    obtain ⟨ws, r2, p2, _⟩ := I.list h2
    have e := nil_vals r2
    subst e
    cases r1 with
    | nil =>
      have z := SeqAt.RcNeAt.lists (A := X.A) (s := s) (e := fun _ => true) p1.isList p2.isList rfl hu (fun j _ j2 => absurd j2 (Nat.not_lt_zero j))
      exact z X.prog X.w X.xe _ ⟨.bl _, H, I, rfl, q⟩
    | cons r rs =>
      have z := SeqAt.RcNeAt.lists_lengths (A := X.A) (s := s) p1.isList p2.isList rfl hu
      exact z X.prog X.w X.xe _ ⟨.bl _, H, I, rfl, q⟩
theorem kEqNil {X : Cx} {K : PySem.W.Frag} {k : Nat} (hr : Room k X.A) (hK : X.K = K := by rfl) : OpR X (compareOp .Eq) (rEqNil K) := hK ▸ op_eqNil hr
theorem kNeNil {X : Cx} {K : PySem.W.Frag} {k : Nat} (hr : Room k X.A) (hK : X.K = K := by rfl) : OpR X (compareOp .NotEq) (rNeNil K) := hK ▸ op_neNil hr
/-- str(i) -/
def rStrI : List V → Hp → VK → Prop := fun xs H Q => ∃ i : Int, xs = [.int i] ∧ i.natAbs.log2 < 1920 ∧ Q (.str (Str.ofString (toString i))) H
theorem call_strI {X : Cx} : CallR X (.type "str") rStrI := by
  intro pins s σ H xs us Q I r h
  obtain ⟨i, rfl, hi, q⟩ := h
  obtain ⟨u, rfl, ru⟩ := vals1 r
  obtain ⟨t, rfl⟩ := ru
  exact PySem.P.str_of_int hi ⟨.str _, H, I.tok _, ⟨_, rfl⟩, q⟩
end L3

/-! t[::-1] of a tuple. -/
namespace L3
open PySem PySem.Spec PyProof.Rows L2 L5
section
variable {prog : Program} {w : World} {A : Around} {E : Value → Shared → Prop} {s : Shared}
theorem rev_adjust (n : Nat) : Builtin.Slice.sliceAdjust none none (-1) (n : Int) = ((n : Int) - 1, -1) := by
  unfold Builtin.Slice.sliceAdjust
  rfl
theorem rev_places (n : Nat) : Builtin.Slice.slicePlaces ((n : Int) - 1) (-1) (-1) = n := by
  unfold Builtin.Slice.slicePlaces
  rw [if_neg (by decide)]
  split
  · rw [show -(-1 : Int) = 1 by decide, Int.ediv_one]; omega
  · omega
theorem sliceApplied_rev {sl : Addr} {vl vu vs : Value} {n : Nat} {Q : Int × Int × Nat → Shared → Prop} (hs : s.heap.IsSliceOf sl vl vu vs) (pl : IsPart vl none) (pu : IsPart vu none) (ps : IsPart vs (some (-1)))
    (h : Q ((n : Int) - 1, -1, n) s) : wpAny (model prog w) A (Builtin.Slice.sliceApplied (.ref sl) (pure (n : Int))) Q E s := by
  obtain ⟨os, hos, hcs, hds⟩ := id hs
  unfold Builtin.Slice.sliceApplied Builtin.Slice.sliceFields
  refine wpAny_bind (wpAny_bind (wpAny_field hos hds (x := vl) rfl (wpAny_bind (wpAny_field hos hds (x := vu) rfl (wpAny_bind (wpAny_field hos hds (x := vs) rfl (wpAny_pure ?_)))))))
  refine wpAny_bind (HT.slicePart_ ps ?_)
  show wpAny _ _ (if ((-1 : Int) == 0) = true then _ else _) _ _ s
  rw [if_neg (by decide)]
  refine wpAny_bind (HT.slicePart_ pl (wpAny_bind (HT.slicePart_ pu (wpAny_bind (wpAny_pure ?_)))))
  show wpAny _ _ (match Builtin.Slice.sliceAdjust none none (-1) (n : Int) with | (lo, hi) => pure (lo, (-1 : Int), Builtin.Slice.slicePlaces lo hi (-1))) _ _ s
  rw [rev_adjust n]
  show wpAny _ _ (pure ((n : Int) - 1, (-1 : Int), Builtin.Slice.slicePlaces ((n : Int) - 1) (-1) (-1))) _ _ s
  rw [rev_places]
  exact wpAny_pure h
theorem fm_congr {α β : Type} {f g : α → Option β} : ∀ {l : List α}, (∀ x ∈ l, f x = g x) → l.filterMap f = l.filterMap g
  | [], _ => rfl
  | x :: l, h => by rw [List.filterMap_cons, List.filterMap_cons, h x List.mem_cons_self, fm_congr fun y hy => h y (List.mem_cons_of_mem _ hy)]
theorem pick_rev (xs : Array Value) : ((List.range xs.size).filterMap fun (m : Nat) => xs[((xs.size : Int) - 1 + (m : Int) * -1).toNat]?).toArray = xs.toList.reverse.toArray := by
  congr 1
  have e : ((List.range xs.size).filterMap fun (m : Nat) => xs[((xs.size : Int) - 1 + (m : Int) * -1).toNat]?) = (List.range xs.size).filterMap fun m => xs.toList.reverse[m]? := by
    apply fm_congr
    intro m hm
    rw [List.mem_range] at hm
    rw [List.getElem?_reverse (by rw [Array.length_toList]; exact hm), Array.length_toList, Array.getElem?_toList]
    congr 1
    omega
  rw [e]
  have : xs.size = xs.toList.reverse.length := by rw [List.length_reverse, Array.length_toList]
  rw [this]
  generalize xs.toList.reverse = ys
  induction ys with
  | nil => rfl
  | cons y ys ih =>
    rw [List.length_cons, List.range_succ_eq_map, List.filterMap_cons, List.filterMap_map]
    show y :: _ = _
    congr 1
theorem getItem_tuple_rev {t sl : Addr} {items : Array Value} {vl vu vs : Value} {Q : Value → Shared → Prop} (ht : IsTup s.heap t items) (hs : s.heap.IsSliceOf sl vl vu vs) (pl : IsPart vl none) (pu : IsPart vu none) (ps : IsPart vs (some (-1)))
    (h : Q (.ref s.heap.objs.size) { s with heap := s.heap.push { cls := .type "tuple", data := .seq items.toList.reverse.toArray } })
    (hsz : items.size ≤ sizeLine) : wpAny (model prog w) A (getItem (.ref t) (.ref sl)) Q E s := by
  have htake : sizeOk (.seq items.toList.reverse.toArray) := by
    show items.toList.reverse.toArray.size ≤ sizeLine
    rw [List.size_toArray, List.length_reverse, Array.length_toList]
    omega
  obtain ⟨os, hos, hcs, hds⟩ := id hs
  have hTs : s.TypeIs (.ref sl) "slice" := ⟨os, hos, hcs⟩
  unfold getItem
  try with_reducible refine wpAny_holding ?_
  first | refine wpAny_bind (wpAny_pure ?_) | skip
  refine wpAny_bind (wpAny_sequenceKey ht.typeIs (by decide) ?_)
  refine wpAny_bind (wpAny_callSpecial?_slot (name := Str.ofString "__getitem__") ht.typeIs PyProof.Rows.slot_tuple_getitem
    (wpAny_call_entry PyProof.Rows.slot_tuple_getitem ht.typeIs entry_tuple_getitem ?_ (args_tuple_getitem _ _)))
  show wpAny _ _ (Builtin.Tuple.tupleItemsOf (.ref t) >>= _) _ _ s
  refine wpAny_bind (tupleItemsOf_ ht ?_)
  refine wpAny_bind (wpAny_typeOf hTs ?_)
  rw [if_pos (by decide)]
  refine wpAny_bind (sliceApplied_rev hs pl pu ps ?_)
  have hno : ¬ (((items.size : Int) - 1 == 0 && (-1 : Int) == 1 && items.size == items.size) = true) := by
    rw [show ((-1 : Int) == 1) = false from rfl]
    simp
  show wpAny _ _ (if ((items.size : Int) - 1 == 0 && (-1 : Int) == 1 && items.size == items.size) = true then _ else _) _ _ s
  rw [if_neg hno, pick_rev]
  first
    | exact wpAny_bind (m := Builtin.Tuple.tupleExact _) (wpAny_newObj_type (wpAny_pure ⟨_, rfl, wpAny_pure h⟩) htake)
    | exact wpAny_bind (m := Builtin.Tuple.tupleExact _) (wpAny_newObj_type (wpAny_bind (wpAny_pure (wpAny_pure ⟨_, rfl, wpAny_pure h⟩))) htake)
    | exact wpAny_bind (wpAny_bind (m := Builtin.Tuple.tupleExact _) (wpAny_newObj_type (wpAny_pure (wpAny_pure ⟨_, rfl, wpAny_pure h⟩)) htake))
    | exact wpAny_bind (wpAny_bind (m := Builtin.Tuple.tupleExact _) (wpAny_newObj_type (wpAny_pure ⟨_, rfl, wpAny_pure h⟩) htake))
end
section
variable {X : Cx}
/-- xs[::-1], t[::-1] -/
def tRevB (K : PySem.W.Frag) (te : TE) : TE := fun σ H Q => te σ H fun x H1 => ∃ a xs, x = .ref a ∧ (SqL K H1 a xs ∧ NewL xs.reverse H1 Q ∨ SqT K H1 a xs ∧ NewT xs.reverse H1 Q)
theorem pe_revB {K : PySem.W.Frag} {e : Expr} {te : TE} {k : Nat} {p1 p2 p3 pos : Pos} (he : PE X e te) (hK : X.K = K := by rfl) : PE X (.Subscript e (.Slice none none (some (.UnaryOp .USub (.Constant (.int 1) k p1) p2)) p3) pos) (tRevB K te) := by
  subst hK
  refine ⟨fun pins s σ H Q I h => ?_⟩
  refine Subscript_ (thn (he.run pins s σ H _ I h) fun v s1 ⟨x, H1, I1, r1, q1⟩ => ?_)
  obtain ⟨a, xs, ex, hq⟩ := q1
  subst ex
  cases r1
  have hst : PO X (some (.UnaryOp .USub (.Constant (.int 1) k p1) p2)) (tPart (tUn (rU fun i => .int (-i)) (tC (.int 1)))) := po_some (pe_un un_neg pe_int)
  refine wpAny_Slice (thn (po_none.run pins s1 σ H1 (fun o H2 => o = none ∧ H2 = H1) I1 ⟨rfl, rfl⟩) fun vl s2 ⟨l, H2, I2, pl, el, e2⟩ => ?_)
  subst el e2
  refine thn (po_none.run pins s2 σ H2 (fun o H3 => o = none ∧ H3 = H2) I2 ⟨rfl, rfl⟩) fun vu s3 ⟨u, H3, I3, pu, eu, e3⟩ => ?_
  subst eu e3
  refine thn (hst.run pins s3 σ H3 (fun o H4 => o = some (-1) ∧ H4 = H3) I3 ⟨1, rfl, -1, rfl, rfl, rfl⟩) fun vs s4 ⟨o, H4, I4, ps, eo, e4⟩ => ?_
  subst eo e4
  have I5 : Inv X pins σ H4 { s4 with heap := s4.heap.push { cls := .type "slice", data := .fields #[vl, vu, vs] } } := I4.kept (t' := s4.toks) fun b ob q => Heap.get?_push_of_some _ q
  show wpAny (model X.prog X.w) X.A (subscriptTail e (.Slice none none (some (.UnaryOp .USub (.Constant (.int 1) k p1) p2)) p3) (.ref a) (.ref s4.heap.objs.size)) (EP X pins σ Q) X.xe { s4 with heap := s4.heap.push { cls := .type "slice", data := .fields #[vl, vu, vs] } }
  rcases hq with ⟨hx, q⟩ | ⟨hx, q⟩
  · obtain ⟨its, r, ht, hz⟩ := I5.list hx
    have hlen := r.length
    refine tail_any (ops := [.ref a, .ref s4.heap.objs.size]) ht.isList.typeIs (PySem.slot_list_getitem.lookup) ?_ (by with_unfolding_all rfl)
    refine wpAny_getItem_list_slice ht.isList (Heap.IsSliceOf.new _ vl vu vs) pl pu ps (by decide) ?_ (by rw [List.size_toArray]; omega)
    rw [PySem.W.krv_pick]
    refine ⟨.ref _, _, I5.laid (t' := s4.toks) (o := .lst xs.reverse) (fun b ob q => Heap.get?_push_of_some _ q) (Nat.le_refl _) ?_, rfl, q _ (I5.hok.fresh (Nat.le_refl _))⟩
    exact ⟨by rw [List.length_reverse]; exact hz, _, 0, r.reverse, Heap.get?_push_size _ rfl⟩
  · obtain ⟨its, r, ht, hz⟩ := I5.tuple hx
    have hlen := r.length
    refine tail_any (ops := [.ref a, .ref s4.heap.objs.size]) ht.typeIs (PyProof.Rows.slot_tuple_getitem.lookup) ?_ (by with_unfolding_all rfl)
    refine getItem_tuple_rev ht (Heap.IsSliceOf.new _ vl vu vs) pl pu ps ?_ (by rw [List.size_toArray]; omega)
    exact newT_run I5 r.reverse (by rw [List.length_reverse]; exact hz) q
end
end L3

/-! repr of trees with dicts. -/
namespace L3
open PySem PySem.Spec PyProof.Rows L2
section
variable {K : PySem.W.Frag} {I J : Hp}
mutual
theorem Dq.up (e : Ex I J) : ∀ {v : V} {d : PyData}, Dq K I v d → Dq K J v d
  | _, _, .non => .non
  | _, _, .bl b => .bl b
  | _, _, .int i => .int i
  | _, _, .str x => .str x
  | _, _, .lst h hs => .lst (SqL.up e h) (DqA.up e hs)
  | _, _, .tup h hs => .tup (SqT.up e h) (DqA.up e hs)
  | _, _, .dct h hs => .dct (Rd.up e h) (DqA.up e hs)
theorem DqA.up (e : Ex I J) : ∀ {vs : List V} {ds : List PyData}, DqA K I vs ds → DqA K J vs ds
  | _, _, .nil => .nil
  | _, _, .cons h hs => .cons (Dq.up e h) (DqA.up e hs)
end
theorem dqa_ints : ∀ ns : List Int, DqA K I (ns.map V.int) (ns.map PyData.int)
  | [] => .nil
  | n :: ns => .cons (.int n) (dqa_ints ns)
theorem kReprQ {X : Cx} {k : Nat} (hg : X.A.guards = some []) (hr : Room k X.A) (hK : X.K = K := by rfl) : CallR X (.builtin "repr") (rReprQ K) := hK ▸ call_reprQ hg hr.units
end
end L3
namespace L5
open PySem PySem.Spec PyProof.Rows L2 L3
section
variable {K : PySem.W.Frag} {W W' : Wd} {S : Sto} {H : Hp} {P : AV} {Q : VK} {I : Hp} {ad : List Addr}
mutual
def datQ : PV → PyData
  | .non => .none
  | .bl b => .bool b
  | .int i => .int i
  | .str x => .str x
  | .tup xs => .tuple (datsQ xs)
  | .lst xs => .list (datsQ xs)
  | .scr ns => .list (ns.map .int)
  | .kt xs => .tuple (datsQ xs)
  | .dct ks xs => .dict ((ks.map keyD).zip (datsQ xs))
  | _ => .none
def datsQ : List PV → List PyData
  | [] => []
  | x :: xs => datQ x :: datsQ xs
end
mutual
def nownQ : PV → Bool
  | .tup xs => nownsQ xs
  | .lst xs => nownsQ xs
  | .kt xs => nownsQ xs
  | .dct _ xs => nownsQ xs
  | .non => true
  | .bl _ => true
  | .int _ => true
  | .str _ => true
  | .scr _ => true
  | _ => false
def nownsQ : List PV → Bool
  | [] => true
  | x :: xs => nownQ x && nownsQ xs
end
mutual
theorem VR.dq : ∀ {v : V} {p : PV}, VR K I ad v p → nownQ p = true → Dq K I v (datQ p)
  | _, _, .non, _ => by rw [datQ]; exact .non
  | _, _, .bl b, _ => by rw [datQ]; exact .bl b
  | _, _, .int i, _ => by rw [datQ]; exact .int i
  | _, _, .str x, _ => by rw [datQ]; exact .str x
  | _, _, .tup h hs, e => by rw [nownQ] at e; rw [datQ]; exact .tup (TupF.sq h) (VRs.dq hs e)
  | _, _, .lst h hs, e => by rw [nownQ] at e; rw [datQ]; exact .lst (SqL.of h) (VRs.dq hs e)
  | _, _, .scr h, _ => by rw [datQ]; exact .lst h (dqa_ints _)
  | _, _, .kt h hs, e => by rw [nownQ] at e; rw [datQ]; exact .tup h.sq (VRs.dq hs e)
  | _, _, .own _, e => (nomatch e)
  | _, _, .ty _, e => (nomatch e)
  | _, _, .cls _, e => (nomatch e)
  | _, _, .ins _ _ _ _ _, e => (nomatch e)
  | _, _, .dct h e2 _ hs, e => by
    rw [nownQ] at e
    rw [datQ, ← e2, List.map_map]
    exact .dct (.of h) (VRs.dq hs e)
theorem VRs.dq : ∀ {vs : List V} {ps : List PV}, VRs K I ad vs ps → nownsQ ps = true → DqA K I vs (datsQ ps)
  | _, _, .nil, _ => by rw [datsQ]; exact .nil
  | _, _, .cons h hs, e => by
    rw [nownsQ, Bool.and_eq_true] at e
    rw [datsQ]
    exact .cons (VR.dq h e.1) (VRs.dq hs e.2)
end
/-- what a value stands for: an own list or dict by its store -/
@[reducible] def rsvQ (p : PV) (S : Sto) : PV := match p with
  | .own k => match sget S k with
    | some xs => .lst xs
    | none => match sgetD S k with
      | some (ks, xs) => .dct ks xs
      | none => .own k
  | x => x
theorem VR.dqS (I : In K W S H) {v : V} {p : PV} (r : VR K W.I W.ad v p) (e : nownQ (rsvQ p S) = true) : Dq K H v (datQ (rsvQ p S)) := by
  have go : nownQ p = true → Dq K H v (datQ p) := fun e => Dq.up I.exH (r.dq e)
  cases p with
  | own k =>
    simp only [rsvQ] at e ⊢
    cases z : sget S k with
    | some xs =>
      rw [z] at e
      obtain ⟨a, us, h1, h2, h3⟩ := r.lv I (xs := xs) z
      subst h1
      rw [nownQ] at e
      show Dq K H (.ref a) (datQ (.lst xs))
      rw [datQ]
      exact .lst h2 (DqA.up I.exH (h3.dq e))
    | none =>
      rw [z] at e
      cases z2 : sgetD S k with
      | none =>
        rw [z2] at e
        simp only [nownQ] at e
        cases e
      | some q =>
        obtain ⟨ks, xs⟩ := q
        rw [z2] at e
        obtain ⟨a, kvs, h1, h2, h3, _, h5⟩ := r.dct_at I (ks := ks) (xs := xs) z2
        subst h1
        simp only [nownQ] at e
        show Dq K H (.ref a) (datQ (.dct ks xs))
        rw [datQ, ← h3, List.map_map]
        exact .dct (.of h2) (DqA.up I.exH (h5.dq e))
  | _ => exact go e
/-- it may be shown: depth at most k, the text at most z long -/
structure Rq (k z : Nat) (p : PV) : Prop where
  own : nownQ p = true
  sh : (datQ p).showable = true
  dp : (datQ p).depth ≤ k
  ln : (datQ p).shown.length ≤ z
def rqOk (p : PV) : Prop := Rq 60 16000000 p
@[reducible] def vReprQ : AL := fun xs S P => on1 xs fun x => rqOk (rsvQ x S) ∧ P (.str (PyData.shown (datQ (rsvQ x S)))) S
theorem sl_reprQ : SL K (rReprQ K) vReprQ := ⟨fun {W S xs ps H Q P} I r h c => by
  obtain ⟨v, p, rfl, rfl, r, ⟨h1, h2, h3, h4⟩, h⟩ := r.on1 h
  exact ⟨v, _, rfl, r.dqS I h1, h2, h3, Nat.le_trans h4 (by decide), c.at I (.str _) h⟩⟩
/-! t == (), l == [] -/
@[reducible] def onNil (x y : PV) (S : Sto) (G : Bool → Prop) : Prop := match y with
  | .tup [] => onT x fun xs => G xs.isEmpty
  | .lst [] => onL (lv x S) fun xs => G xs.isEmpty
  | _ => False
@[reducible] def vEqNil : A2 := fun x y S P => onNil x y S fun b => P (.bl b) S
@[reducible] def vNeNil : A2 := fun x y S P => onNil x y S fun b => P (.bl (!b)) S
theorem vrs_emp {us : List V} {xs : List PV} (r : VRs K I ad us xs) : us.isEmpty = xs.isEmpty := by cases r <;> rfl
theorem nil_core (I : In K W S H) {x y : V} {p q : PV} (r1 : VR K W.I W.ad x p) (r2 : VR K W.I W.ad y q) {G : Bool → Prop} (h : onNil p q S G) : ∃ a b us, x = .ref a ∧ y = .ref b ∧ nilPair K H a b us ∧ G us.isEmpty := by
  cases q with
  | tup zs => cases zs with
    | nil =>
      obtain ⟨xs, rfl, h⟩ := r1.onT (P := fun xs => G xs.isEmpty) h
      obtain ⟨a, us, rfl, hq, rs⟩ := r1.tupS I
      obtain ⟨b, ws, rfl, hq2, rs2⟩ := r2.tupS I
      cases rs2
      exact ⟨a, b, us, rfl, rfl, .inl ⟨hq, hq2⟩, by rw [vrs_emp rs]; exact h⟩
    | cons _ _ => exact h.elim
  | lst zs => cases zs with
    | nil =>
      obtain ⟨xs, e, h⟩ := onL_of (P := fun xs => G xs.isEmpty) h
      obtain ⟨a, us, rfl, hq, rs⟩ := r1.lv I e
      obtain ⟨b, ws, rfl, hq2, rs2⟩ := r2.lv I (xs := []) rfl
      cases rs2
      exact ⟨a, b, us, rfl, rfl, .inr ⟨hq, hq2⟩, by rw [vrs_emp rs]; exact h⟩
    | cons _ _ => exact h.elim
  | _ => exact h.elim
theorem so_eqNil : SO K (rEqNil K) vEqNil := ⟨fun {W S x y p q H Q P} I r1 r2 h c => by
  obtain ⟨a, b, us, e1, e2, hn, h⟩ := nil_core I r1 r2 (G := fun b => P (.bl b) S) h
  exact ⟨a, b, us, e1, e2, hn, c.at I (.bl _) h⟩⟩
theorem so_neNil : SO K (rNeNil K) vNeNil := ⟨fun {W S x y p q H Q P} I r1 r2 h c => by
  obtain ⟨a, b, us, e1, e2, hn, h⟩ := nil_core I r1 r2 (G := fun b => P (.bl (!b)) S) h
  exact ⟨a, b, us, e1, e2, hn, c.at I (.bl _) h⟩⟩
@[reducible] def vStrI : AL := fun xs S P => on1 xs fun x => onI x fun i => (-1000000000000000000000000000000000000000000000000 < i ∧ i < 1000000000000000000000000000000000000000000000000) ∧ P (.str (Str.ofString (toString i))) S
theorem sl_strI : SL K rStrI vStrI := ⟨fun {W S xs ps H Q P} I r h c => by
  obtain ⟨v, p, rfl, rfl, r, h⟩ := r.on1 h
  obtain ⟨i, rfl, _, ⟨h1, h2⟩, h⟩ := r.onI h
  exact ⟨i, rfl, L3.log2_small (Nat.lt_trans (show i.natAbs < 1000000000000000000000000000000000000000000000000 by omega) (by decide)), c.at I (.str _) h⟩⟩
/-! what may be shown, put together -/
theorem Rq.up {k z k' z' : Nat} {p : PV} (h : Rq k z p) (hk : k ≤ k') (hz : z ≤ z') : Rq k' z' p := ⟨h.own, h.sh, Nat.le_trans h.dp hk, Nat.le_trans h.ln hz⟩
theorem Rq.ok {k z : Nat} {p : PV} (h : Rq k z p) (hk : k ≤ 60) (hz : z ≤ 16000000) : rqOk p := h.up hk hz
theorem Rq.non : Rq 0 4 .non := ⟨rfl, by rw [datQ, PyData.showable], by rw [datQ, PyData.depth]; exact Nat.le_refl _, by rw [datQ, PyData.shown]; decide⟩
theorem Rq.bl (b : Bool) : Rq 0 5 (.bl b) := ⟨rfl, by rw [datQ, PyData.showable], by rw [datQ, PyData.depth]; exact Nat.le_refl _, by rw [datQ, PyData.shown]; cases b <;> decide⟩
theorem Rq.of {k z : Nat} {p : PV} (h : Rp k z p) (e : datQ p = dat p) (ho : nownQ p = true) : Rq k z p := ⟨ho, by rw [e]; exact good_show k _ h.gd, by rw [e]; exact good_depth k _ h.gd, by rw [e]; exact Nat.le_trans (good_nz k _ h.gd) h.nz⟩
theorem Rq.int {i : Int} (h1 : -1000000000000000000000000 < i) (h2 : i < 1000000000000000000000000) : Rq 0 1921 (.int i) := .of (Rp.int h1 h2 (Nat.le_refl _)) (by rw [datQ, dat]) rfl
/-- all of a list -/
structure RqA (k n : Nat) (xs : List PV) : Prop where
  own : nownsQ xs = true
  sh : PyData.showableAll (datsQ xs) = true
  dp : PyData.depthAll (datsQ xs) ≤ k
  ln : ((PyData.shownAll (datsQ xs)).map (·.length)).sum + 2 * (PyData.shownAll (datsQ xs)).length ≤ n
theorem RqA.nil {k n : Nat} : RqA k n [] := ⟨rfl, by rw [datsQ, PyData.showableAll], by rw [datsQ, PyData.depthAll]; exact Nat.zero_le _, by rw [datsQ, PyData.shownAll]; exact Nat.zero_le _⟩
theorem RqA.cons {k z n m : Nat} {p : PV} {xs : List PV} (h : Rq k z p) (hs : RqA k n xs) (hm : z + 2 + n ≤ m) : RqA k m (p :: xs) := ⟨by rw [nownsQ, h.own, hs.own]; rfl, by rw [datsQ, PyData.showableAll, h.sh, hs.sh]; rfl, by
  rw [datsQ, PyData.depthAll]
  exact Nat.max_le.mpr ⟨h.dp, hs.dp⟩, by
  rw [datsQ, PyData.shownAll, List.map_cons, List.sum_cons, List.length_cons]
  have h1 := h.ln
  have h2 := hs.ln
  omega⟩
theorem RqA.all {k z : Nat} : ∀ {xs : List PV}, (∀ x ∈ xs, Rq k z x) → RqA k (xs.length * (z + 2)) xs
  | [], _ => .nil
  | x :: xs, h => .cons (h x List.mem_cons_self) (RqA.all fun y hy => h y (List.mem_cons_of_mem _ hy)) (by rw [List.length_cons, Nat.succ_mul]; omega)
theorem RqA.tup {k n m : Nat} {xs : List PV} (h : RqA k n xs) (hm : n + 3 ≤ m) : Rq (k + 1) m (.tup xs) := ⟨by rw [nownQ, h.own], by rw [datQ, PyData.showable, h.sh], by rw [datQ, PyData.depth]; have := h.dp; omega, by
  rw [datQ, PyData.shown]
  have h1 := tupleText_len_le (PyData.shownAll (datsQ xs))
  have h2 := h.ln
  omega⟩
theorem RqA.lst {k n m : Nat} {xs : List PV} (h : RqA k n xs) (hm : n + 3 ≤ m) : Rq (k + 1) m (.lst xs) := ⟨by rw [nownQ, h.own], by rw [datQ, PyData.showable, h.sh], by rw [datQ, PyData.depth]; have := h.dp; omega, by
  rw [datQ, PyData.shown]
  have h1 := listText_len_le (PyData.shownAll (datsQ xs))
  have h2 := h.ln
  omega⟩
theorem Rq.dct0 : Rq 1 3 (.dct [] []) := ⟨rfl, by rw [datQ, datsQ, List.map_nil, List.zip_nil_left, PyData.showable, PyData.showableKv], by rw [datQ, datsQ, List.map_nil, List.zip_nil_left, PyData.depth, PyData.depthKv]; decide, by rw [datQ, datsQ, List.map_nil, List.zip_nil_left, PyData.shown, PyData.shownKv]; decide⟩
end
end L5

/-! + and - and == with a bool on one side, str of a bool; trees under bounds for repr. -/
namespace L3
open PySem PySem.Spec PyProof.Rows L2
@[reducible] def bI (b : Bool) : Int := if b = true then 1 else 0
section
variable {X : Cx}
def rBI (g : Int → Int → V) : R2 := fun x y H Q => ∃ a j, x = .bl a ∧ y = .int j ∧ Q (g (bI a) j) H
def rIB (g : Int → Int → V) : R2 := fun x y H Q => ∃ i b, x = .int i ∧ y = .bl b ∧ Q (g i (bI b)) H
theorem op_addBI : OpR X (binaryOp .Add) (rBI fun i j => .int (i + j)) := by
  intro pins s σ H x y v u Q I rx ry h
  obtain ⟨a, j, rfl, rfl, q⟩ := h
  cases rx
  obtain ⟨t, rfl⟩ := ry
  exact PySem.IntBool.add_bool_int ⟨.int _, H, I.tok _, ⟨_, rfl⟩, q⟩
theorem op_subBI : OpR X (binaryOp .Sub) (rBI fun i j => .int (i - j)) := by
  intro pins s σ H x y v u Q I rx ry h
  obtain ⟨a, j, rfl, rfl, q⟩ := h
  cases rx
  obtain ⟨t, rfl⟩ := ry
  exact PySem.IntBool.sub_bool_int ⟨.int _, H, I.tok _, ⟨_, rfl⟩, q⟩
theorem op_subIB : OpR X (binaryOp .Sub) (rIB fun i j => .int (i - j)) := by
  intro pins s σ H x y v u Q I rx ry h
  obtain ⟨a, j, rfl, rfl, q⟩ := h
  obtain ⟨t, rfl⟩ := rx
  cases ry
  exact PySem.IntBool.sub_int_bool ⟨.int _, H, I.tok _, ⟨_, rfl⟩, q⟩
theorem op_eqBI : OpR X (compareOp .Eq) (rBI fun i j => .bl (i == j)) := by
  intro pins s σ H x y v u Q I rx ry h
  obtain ⟨a, j, rfl, rfl, q⟩ := h
  cases rx
  obtain ⟨t, rfl⟩ := ry
  exact PySem.EqBoolInt.eq_bool_int ⟨.bl _, H, I, rfl, q⟩
def rStrB : List V → Hp → VK → Prop := fun xs H Q => rStrI xs H Q ∨ ∃ b, xs = [.bl b] ∧ Q (.str (if b then "True" else "False")) H
theorem call_strB : CallR X (.type "str") rStrB := by
  intro pins s σ H xs us Q I r h
  rcases h with h | ⟨b, rfl, q⟩
  · exact call_strI pins s σ H xs us Q I r h
  · obtain ⟨u, rfl, ru⟩ := vals1 r
    cases ru
    exact PySem.P.str_of_bool ⟨.str _, H, I.tok _, ⟨_, rfl⟩, q⟩
end
end L3
namespace L5
open PySem PySem.Spec PyProof.Rows L2 L3
section
variable {X : Cx}
def rAddB (K : PySem.W.Frag) : R2 := fun x y H Q => rAddF K x y H Q ∨ rBI (fun i j => .int (i + j)) x y H Q
theorem kAddB {K : PySem.W.Frag} (hK : X.K = K := by rfl) : OpR X (binaryOp .Add) (rAddB K) := (kAddF hK).or op_addBI
def rSubB : R2 := fun x y H Q => rI0 (fun i j => .int (i - j)) x y H Q ∨ (rBI (fun i j => .int (i - j)) x y H Q ∨ rIB (fun i j => .int (i - j)) x y H Q)
theorem kSubB : OpR X (binaryOp .Sub) rSubB := op_sub.or (op_subBI.or op_subIB)
def rEqB (K : PySem.W.Frag) : R2 := fun x y H Q => rEqA K x y H Q ∨ rBI (fun i j => .bl (i == j)) x y H Q
theorem kEqB {K : PySem.W.Frag} {k : Nat} (hr : Room k X.A) (hK : X.K = K := by rfl) : OpR X (compareOp .Eq) (rEqB K) := (kEq hr hK).or op_eqBI
end
section
variable {K : PySem.W.Frag} {W W' : Wd} {S : Sto} {H : Hp} {P : AV} {Q : VK} {I : Hp} {ad : List Addr}
@[reducible] def vAddB : A2 := fun x y S P => match x with
  | .bl a => onI y fun j => P (.int (bI a + j)) S
  | x => vAdd x y S P
@[reducible] def vSubB : A2 := fun x y S P => match x with
  | .bl a => onI y fun j => P (.int (bI a - j)) S
  | .int i => match y with
    | .bl b => P (.int (i - bI b)) S
    | .int j => P (.int (i - j)) S
    | _ => False
  | _ => False
@[reducible] def vEqB : A2 := fun x y S P => match x with
  | .bl a => match y with
    | .int j => P (.bl (bI a == j)) S
    | y => vEq (.bl a) y S P
  | x => vEq x y S P
theorem so_addB : SO K (rAddB K) vAddB := ⟨fun {W S x y p q H Q P} I r1 r2 h c => by
  cases p with
  | bl a =>
    obtain ⟨j, rfl, _, h⟩ := r2.onI h
    cases r1
    exact .inr ⟨_, _, rfl, rfl, c.at I (.int _) h⟩
  | _ => exact .inl (so_add.run I r1 r2 h c)⟩
theorem so_subB : SO K rSubB vSubB := ⟨fun {W S x y p q H Q P} I r1 r2 h c => by
  cases p with
  | bl a =>
    obtain ⟨j, rfl, _, h⟩ := r2.onI h
    cases r1
    exact .inr (.inl ⟨_, _, rfl, rfl, c.at I (.int _) h⟩)
  | int i =>
    cases r1
    cases q with
    | bl b => cases r2; exact .inr (.inr ⟨_, _, rfl, rfl, c.at I (.int _) (by unfold vSubB at h; exact h)⟩)
    | int j => cases r2; exact .inl ⟨_, _, rfl, rfl, c.at I (.int _) (by unfold vSubB at h; exact h)⟩
    | _ => exact h.elim
  | _ => exact h.elim⟩
theorem so_eqB : SO K (rEqB K) vEqB := ⟨fun {W S x y p q H Q P} I r1 r2 h c => by
  cases p with
  | bl a =>
    cases q with
    | int j => cases r1; cases r2; exact .inr ⟨_, _, rfl, rfl, c.at I (.bl _) (by unfold vEqB at h; exact h)⟩
    | _ => exact .inl (so_eq.run I r1 r2 h c)
  | _ => exact .inl (so_eq.run I r1 r2 h c)⟩
/-- xs[::-1], t[::-1] -/
@[reducible] def aRevB (a : ATE) : ATE := fun ρ S P => a ρ S fun x S1 => match x with
  | .tup xs => P (.tup xs.reverse) S1
  | x => onL (lv x S1) fun xs => P (.lst xs.reverse) S1
theorem rev_lst {W : Wd} {S : Sto} {H : Hp} {x : V} {p : PV} (I : In K W S H) (r : VR K W.I W.ad x p) (c : CE K W P Q) (h : onL (lv p S) fun xs => P (.lst xs.reverse) S) : ∃ a xs, x = .ref a ∧ (SqL K H a xs ∧ NewL xs.reverse H Q ∨ SqT K H a xs ∧ NewT xs.reverse H Q) := by
  obtain ⟨xs, e, h⟩ := onL_of h
  obtain ⟨a, us, rfl, hq, rs⟩ := r.lv I e
  exact ⟨a, us, rfl, .inl ⟨hq, I.newL rs.reverse c h⟩⟩
theorem se_revB {te : TE} {f : ATE} (ha : SE K te f) : SE K (tRevB K te) (aRevB f) := ⟨fun I E h c =>
  ha.run I E h fun W1 S1 x p H1 l1 I1 r1 h1 => by
    cases p with
    | tup xs =>
      obtain ⟨a, us, rfl, hq, rs⟩ := r1.tupS I1
      exact ⟨a, us, rfl, .inr ⟨hq, I1.newT rs.reverse (c.up l1) h1⟩⟩
    | _ => exact rev_lst I1 r1 (c.up l1) h1⟩
theorem se_revOB {te : TE} {f : ATE} (ha : SE K te f) : SE K (tRevB K te) (aRevO f) := ⟨fun I E h c =>
  ha.run I E h fun W1 S1 x p H1 l1 I1 r1 h1 => by
    obtain ⟨xs, e, h⟩ := onL_of h1
    obtain ⟨a, us, rfl, hq, rs⟩ := r1.lv I1 e
    exact ⟨a, us, rfl, .inl ⟨hq, I1.newO rs.reverse (c.up l1) h⟩⟩⟩
@[reducible] def vStrB : AL := fun xs S P => on1 xs fun x => match x with
  | .bl b => P (.str (if b then "True" else "False")) S
  | x => onI x fun i => (-1000000000000000000000000000000000000000000000000 < i ∧ i < 1000000000000000000000000000000000000000000000000) ∧ P (.str (Str.ofString (toString i))) S
theorem sl_strB : SL K rStrB vStrB := ⟨fun {W S xs ps H Q P} I r h c => by
  obtain ⟨v, p, rfl, rfl, r, h⟩ := r.on1 h
  cases p with
  | bl b => cases r; exact .inr ⟨_, rfl, c.at I (.str _) h⟩
  | int i =>
    cases r
    obtain ⟨⟨h1, h2⟩, h⟩ := h
    exact .inl ⟨i, rfl, L3.log2_small (Nat.lt_trans (show i.natAbs < 1000000000000000000000000000000000000000000000000 by omega) (by decide)), c.at I (.str _) h⟩
  | _ => exact h.elim⟩
end
/-- a value that is known, the store as it was -/
structure At (v : PV) (S0 : Sto) (p : PV) (S1 : Sto) : Prop where
  v : p = v
  s : S1 = S0
theorem r_joinE {a : ATE} {ρ : AEnv} {S : Sto} {P : AV} (v : PV) (h : a ρ S (At v S)) (k : P v S) : aJoinE a ρ S P := ⟨At v S, h, fun _ _ ⟨e1, e2⟩ => by subst e1 e2; exact k⟩
/-! ### trees under bounds -/
/-- the greatest bound for ints that are shown -/
@[reducible] def big : Int := 1000000000000000000000000000000000000000000000
@[reducible] def okI (b i : Int) : Prop := -b < i ∧ i < b
@[reducible] def okS (x : Str) : Prop := ∀ c ∈ x.cps.toList, c < 16 ^ 8
def okK (b : Int) : Key → Prop
  | .inl i => okI b i
  | .inr x => okS x
def tk : List Key → Nat
  | [] => 0
  | .inl _ :: ks => 51 + tk ks
  | .inr x :: ks => 10 * x.length + 8 + tk ks
mutual
/-- the text is at most so long -/
def tl : PV → Nat
  | .non => 4
  | .bl _ => 5
  | .int _ => 47
  | .str x => 10 * x.length + 4
  | .tup xs => 3 + tls xs
  | .lst xs => 3 + tls xs
  | .dct ks xs => 3 + tk ks + tls xs
  | _ => 0
def tls : List PV → Nat
  | [] => 0
  | x :: xs => tl x + 2 + tls xs
end
/-- data that stand at most n inside one another -/
def Pd (b : Int) : Nat → PV → Prop
  | _, .non => True
  | _, .bl _ => True
  | _, .int i => okI b i
  | _, .str x => okS x
  | n + 1, .tup xs => ∀ x ∈ xs, Pd b n x
  | n + 1, .lst xs => ∀ x ∈ xs, Pd b n x
  | n + 1, .dct ks xs => (∀ k ∈ ks, okK b k) ∧ ∀ x ∈ xs, Pd b n x
  | _, _ => False
theorem Pd.up1 {b : Int} : ∀ {n : Nat} {p : PV}, Pd b n p → Pd b (n + 1) p := by
  intro n
  induction n with
  | zero => intro p h; cases p <;> first | exact h | exact h.elim
  | succ n ih =>
    intro p h
    cases p with
    | tup xs => exact fun x hx => ih (h x hx)
    | lst xs => exact fun x hx => ih (h x hx)
    | dct ks xs => exact ⟨h.1, fun x hx => ih (h.2 x hx)⟩
    | _ => exact h
theorem Pd.up {b : Int} {n m : Nat} {p : PV} (h : Pd b n p) (l : n ≤ m) : Pd b m p := by
  induction l with
  | refl => exact h
  | step _ ih => exact ih.up1
theorem Pd.wide {b c : Int} (l : b ≤ c) : ∀ {n : Nat} {p : PV}, Pd b n p → Pd c n p := by
  intro n
  induction n with
  | zero =>
    intro p h
    cases p with
    | int i => obtain ⟨h1, h2⟩ := h; exact ⟨by omega, by omega⟩
    | _ => exact h
  | succ n ih =>
    intro p h
    cases p with
    | int i => obtain ⟨h1, h2⟩ := h; exact ⟨by omega, by omega⟩
    | tup xs => exact fun x hx => ih (h x hx)
    | lst xs => exact fun x hx => ih (h x hx)
    | dct ks xs =>
      refine ⟨fun k hk => ?_, fun x hx => ih (h.2 x hx)⟩
      have := h.1 k hk
      cases k with
      | inl i => obtain ⟨h1, h2⟩ := this; exact ⟨by omega, by omega⟩
      | inr x => exact this
    | _ => exact h
theorem tls_append : ∀ xs ys : List PV, tls (xs ++ ys) = tls xs + tls ys
  | [], ys => by rw [List.nil_append, tls, Nat.zero_add]
  | x :: xs, ys => by rw [List.cons_append, tls, tls, tls_append xs ys]; omega
theorem tls_rev : ∀ xs : List PV, tls xs.reverse = tls xs
  | [] => rfl
  | x :: xs => by rw [List.reverse_cons, tls_append, tls_rev xs, tls, tls, tls]; omega
theorem tls_cut (xs : List PV) (n : Nat) : tls (xs.take n) + tls (xs.drop n) = tls xs := by
  rw [← tls_append, List.take_append_drop]
theorem tls_mem : ∀ {xs : List PV} {x : PV}, x ∈ xs → tl x + 2 ≤ tls xs
  | y :: xs, x, h => by
    rw [tls]
    rcases List.mem_cons.mp h with rfl | h
    · omega
    · have := tls_mem h; omega
theorem tls_at : ∀ {xs : List PV} {i : Nat} {x : PV}, xs[i]? = some x → tls (xs.take i) + (tl x + 2) + tls (xs.drop (i + 1)) = tls xs
  | y :: xs, 0, x, h => by cases h; rw [List.take_zero, tls, tls, List.drop_succ_cons, List.drop_zero]; omega
  | y :: xs, i + 1, x, h => by
    have := tls_at (xs := xs) (i := i) (x := x) h
    rw [List.take_succ_cons, tls, tls, List.drop_succ_cons]
    omega
theorem Rq.strK (x : Str) (h : okS x) : Rq 0 (10 * x.length + 4) (.str x) := ⟨rfl, by rw [datQ, PyData.showable], by rw [datQ, PyData.depth]; exact Nat.le_refl _, by
  rw [datQ, PyData.shown]
  exact Nat.le_trans (StrLaws.reprText_len x h) (by omega)⟩
theorem int_len (i : Int) (h : okI big i) : (PyData.int i).shown.length ≤ 47 := by
  rw [PyData.shown, PySem.ofString_length]
  exact Nat.le_trans (PySem.int_text_length_le10 (k := 45) (by decide) (by unfold okI big at h; obtain ⟨h1, h2⟩ := h; show _ < (1000000000000000000000000000000000000000000000 : Nat); omega)) (by decide)
theorem int_log (i : Int) (h : okI big i) : i.natAbs.log2 < 1920 := L3.log2_small (Nat.lt_trans (show i.natAbs < 1000000000000000000000000000000000000000000000000 by unfold okI big at h; obtain ⟨h1, h2⟩ := h; omega) (by decide))
theorem Rq.intK (i : Int) (h : okI big i) : Rq 0 47 (.int i) := ⟨rfl, by rw [datQ, PyData.showable, decide_eq_true_eq]; exact int_log i h, by rw [datQ, PyData.depth]; exact Nat.le_refl _, by rw [datQ]; exact int_len i h⟩
theorem RqA.tls {d : Nat} : ∀ {xs : List PV}, (∀ x ∈ xs, Rq d (tl x) x) → RqA d (L5.tls xs) xs
  | [], _ => by rw [L5.tls]; exact .nil
  | x :: xs, h => by
    rw [L5.tls]
    exact .cons (h x List.mem_cons_self) (RqA.tls fun y hy => h y (List.mem_cons_of_mem _ hy)) (Nat.le_refl _)
theorem key_rq (k : Key) (h : okK big k) : (keyD k).showable = true ∧ (keyD k).depth = 0 ∧ (keyD k).shown.length + 4 + L5.tk [] ≤ L5.tk [k] := by
  cases k with
  | inl i => exact ⟨by rw [keyD, PyData.showable, decide_eq_true_eq]; exact int_log i h, by rw [keyD, PyData.depth], by have := int_len i h; rw [keyD]; show _ + 4 + 0 ≤ 51 + 0; omega⟩
  | inr x => exact ⟨by rw [keyD, PyData.showable], by rw [keyD, PyData.depth], by
      have := StrLaws.reprText_len x h
      rw [keyD, PyData.shown]
      show _ + 4 + 0 ≤ 10 * x.length + 8 + 0
      omega⟩
theorem tk_cons (k : Key) (ks : List Key) : L5.tk (k :: ks) = L5.tk [k] + L5.tk ks := by
  cases k with
  | inl i => show 51 + _ = 51 + 0 + _; omega
  | inr x => show 10 * x.length + 8 + _ = 10 * x.length + 8 + 0 + _; omega
theorem kv_rq {d : Nat} : ∀ {ks : List Key} {xs : List PV}, (∀ k ∈ ks, okK big k) → (∀ x ∈ xs, Rq d (tl x) x) →
    PyData.showableKv ((ks.map keyD).zip (datsQ xs)) = true ∧ PyData.depthKv ((ks.map keyD).zip (datsQ xs)) ≤ d ∧ ((PyData.shownKv ((ks.map keyD).zip (datsQ xs))).map (·.length)).sum + 2 * (PyData.shownKv ((ks.map keyD).zip (datsQ xs))).length ≤ L5.tk ks + L5.tls xs
  | [], _, _, _ => by
    rw [List.map_nil, List.zip_nil_left, PyData.showableKv, PyData.depthKv, PyData.shownKv]
    exact ⟨rfl, Nat.zero_le _, Nat.zero_le _⟩
  | _ :: _, [], _, _ => by
    rw [datsQ, List.zip_nil_right, PyData.showableKv, PyData.depthKv, PyData.shownKv]
    exact ⟨rfl, Nat.zero_le _, Nat.zero_le _⟩
  | k :: ks, x :: xs, hk, hx => by
    obtain ⟨h1, h2, h3⟩ := kv_rq (ks := ks) (xs := xs) (fun k h => hk k (List.mem_cons_of_mem _ h)) (fun x h => hx x (List.mem_cons_of_mem _ h))
    obtain ⟨k1, k2, k3⟩ := key_rq k (hk k List.mem_cons_self)
    have hr := hx x List.mem_cons_self
    rw [datsQ, List.map_cons, List.zip_cons_cons, PyData.showableKv, PyData.depthKv, PyData.shownKv, k1, hr.sh, h1, k2]
    have e0 : L5.tk [] = 0 := rfl
    refine ⟨rfl, by have := hr.dp; omega, ?_⟩
    have := hr.ln
    rw [List.map_cons, List.sum_cons, List.length_cons, tk_cons, L5.tls, Str.length_append, Str.length_append]
    have e1 : (": " : Str).length = 2 := by decide +kernel
    omega
theorem Pd.rq : ∀ {d : Nat} {p : PV}, Pd big d p → Rq d (tl p) p := by
  intro d
  induction d with
  | zero =>
    intro p h
    cases p with
    | non => rw [tl]; exact Rq.non
    | bl b => rw [tl]; exact Rq.bl b
    | int i => rw [tl]; exact Rq.intK i h
    | str x => rw [tl]; exact Rq.strK x h
    | _ => exact h.elim
  | succ d ih =>
    intro p h
    cases p with
    | non => rw [tl]; exact Rq.non.up (by omega) (Nat.le_refl _)
    | bl b => rw [tl]; exact (Rq.bl b).up (by omega) (Nat.le_refl _)
    | int i => rw [tl]; exact (Rq.intK i h).up (by omega) (Nat.le_refl _)
    | str x => rw [tl]; exact (Rq.strK x h).up (by omega) (Nat.le_refl _)
    | tup xs => rw [tl]; exact (RqA.tls fun x hx => ih (h x hx)).tup (by omega)
    | lst xs => rw [tl]; exact (RqA.tls fun x hx => ih (h x hx)).lst (by omega)
    | dct ks xs =>
      rw [tl]
      obtain ⟨h1, h2, h3⟩ := kv_rq h.1 (fun x hx => ih (h.2 x hx))
      have := (RqA.tls fun x hx => ih (h.2 x hx))
      refine ⟨by rw [nownQ, this.own], by rw [datQ, PyData.showable]; exact h1, by rw [datQ, PyData.depth]; omega, ?_⟩
      rw [datQ, PyData.shown]
      have := dictText_len_le (PyData.shownKv ((ks.map keyD).zip (datsQ xs)))
      omega
    | _ => exact h.elim
theorem Pd.ok {d : Nat} {p : PV} (h : Pd big d p) (hd : d ≤ 60) (hz : tl p ≤ 16000000) : rqOk p := h.rq.ok hd hz
/-- data: what they may be -/
theorem Pd.ty {b : Int} {d : Nat} {p : PV} (h : Pd b d p) (S : Sto) : ∃ t, tyOf p S = some t := by
  cases p with
  | non => exact ⟨_, rfl⟩
  | bl _ => exact ⟨_, rfl⟩
  | int _ => exact ⟨_, rfl⟩
  | str _ => exact ⟨_, rfl⟩
  | tup _ => exact ⟨_, rfl⟩
  | lst _ => exact ⟨_, rfl⟩
  | dct _ _ => exact ⟨_, rfl⟩
  | _ => cases d <;> exact h.elim
theorem Pd.rsv {b : Int} {d : Nat} {p : PV} (h : Pd b d p) (S : Sto) : rsvQ p S = p := by
  cases p with
  | own k => cases d <;> exact h.elim
  | _ => rfl
theorem Pd.tup {b : Int} {d : Nat} {xs : List PV} (h : Pd b d (.tup xs)) : ∃ e, d = e + 1 ∧ ∀ x ∈ xs, Pd b e x := by
  cases d with
  | zero => exact h.elim
  | succ e => exact ⟨e, rfl, h⟩
def okSb (x : Str) : Bool := x.cps.toList.all fun c => decide (c < 16 ^ 8)
def okKb (b : Int) : Key → Bool
  | .inl i => decide (-b < i ∧ i < b)
  | .inr x => okSb x
/-- Pd, to be reckoned -/
def pdb (b : Int) : Nat → PV → Bool
  | _, .non => true
  | _, .bl _ => true
  | _, .int i => decide (-b < i ∧ i < b)
  | _, .str x => okSb x
  | n + 1, .tup xs => xs.all (pdb b n)
  | n + 1, .lst xs => xs.all (pdb b n)
  | n + 1, .dct ks xs => ks.all (okKb b) && xs.all (pdb b n)
  | _, _ => false
theorem okSb_of {x : Str} (h : okSb x = true) : okS x := fun c hc => by simpa using (List.all_eq_true.mp h) c hc
theorem okKb_of {b : Int} {k : Key} (h : okKb b k = true) : okK b k := by
  cases k with
  | inl i => exact of_decide_eq_true (p := -b < i ∧ i < b) h
  | inr x => exact okSb_of h
theorem Pd.of {b : Int} : ∀ {n : Nat} {p : PV}, pdb b n p = true → Pd b n p := by
  intro n
  induction n with
  | zero =>
    intro p h
    cases p with
    | int i => exact of_decide_eq_true (p := -b < i ∧ i < b) h
    | str x => exact okSb_of h
    | non => trivial
    | bl c => trivial
    | _ => cases h
  | succ n ih =>
    intro p h
    cases p with
    | int i => exact of_decide_eq_true (p := -b < i ∧ i < b) h
    | str x => exact okSb_of h
    | non => trivial
    | bl c => trivial
    | tup xs => exact fun x hx => ih (List.all_eq_true.mp h x hx)
    | lst xs => exact fun x hx => ih (List.all_eq_true.mp h x hx)
    | dct ks xs =>
      have h : (ks.all (okKb b) && xs.all (pdb b n)) = true := h
      rw [Bool.and_eq_true] at h
      exact ⟨fun k hk => okKb_of (List.all_eq_true.mp h.1 k hk), fun x hx => ih (List.all_eq_true.mp h.2 x hx)⟩
    | _ => cases h
/-- lists under bounds, to be reckoned -/
def ckb (b : Int) (n z : Nat) (p : PV) : Bool := pdb b n p && decide (tl p ≤ z)
theorem ckb_all {b : Int} {n z : Nat} {xs : List PV} (h : xs.all (ckb b n z) = true) : ∀ x ∈ xs, Pd b n x ∧ tl x ≤ z := fun x hx => by
  have := List.all_eq_true.mp h x hx
  unfold ckb at this
  rw [Bool.and_eq_true] at this
  exact ⟨Pd.of this.1, of_decide_eq_true this.2⟩
theorem pd_str {b : Int} {d : Nat} {x : Str} (h : okS x) : Pd b d (.str x) := Pd.up (n := 0) h (Nat.zero_le _)
theorem pd_int {b : Int} {d : Nat} {i : Int} (h1 : -b < i) (h2 : i < b) : Pd b d (.int i) := Pd.up (n := 0) ⟨h1, h2⟩ (Nat.zero_le _)
theorem pd_non {b : Int} {d : Nat} : Pd b d .non := Pd.up (n := 0) trivial (Nat.zero_le _)
theorem pd_bl {b : Int} {d : Nat} (c : Bool) : Pd b d (.bl c) := Pd.up (n := 0) trivial (Nat.zero_le _)
theorem int_text (i : Int) (h : okI big i) : (Str.ofString (toString i)).length ≤ 46 := by
  rw [PySem.ofString_length]
  exact PySem.int_text_length_le10 (k := 45) (by decide) (by unfold okI big at h; obtain ⟨h1, h2⟩ := h; show _ < (1000000000000000000000000000000000000000000000 : Nat); omega)
theorem okS_of (s : String) : okS (Str.ofString s) := fun c hc => by
  rw [signs_ofString] at hc
  obtain ⟨ch, h1, rfl⟩ := List.mem_map.mp hc
  have := ch.valid
  have e : ch.toNat = ch.val.toNat := rfl
  rcases this with h | ⟨_, h⟩ <;> rw [e] <;> omega
end L5

/-! enumerate(x, start=1) over a list or a tuple. -/
namespace L3
open PySem PySem.Spec PyProof.Rows L2
theorem typeCall_enum_start (a c : Value) : checkTypeCall "enumerate" ⟨[a], [(Str.ofString "start", c)]⟩ = pure () := by kernel_rfl
theorem newCall_enum_start (a c : Value) : checkBuiltinCall "enumerate.__new__" ⟨[.type "enumerate", a], [(Str.ofString "start", c)]⟩ = pure () := by kernel_rfl
theorem args_object_init_start (obj a c : Value) : argsOk "object.__init__" ⟨[obj, a], [(Str.ofString "start", c)]⟩ := by unfold argsOk; kernel_rfl
set_option maxHeartbeats 1000000 in
theorem meets_enum_newS {v : Value} {o : Obj} {H : Heap → Prop} (B : Begins v o H) (k : Int) (t : Tok) (hfit : Builtin.SmallTypes.fitsIndex k = true) :
    Meets (Builtin.«enumerate.__new__» ⟨[.type "enumerate", v], [(Str.ofString "start", .int k t)]⟩) (fun _ R s => H s.heap ∧
      R (.ok (.ret (.ref (s.heap.push o).objs.size))) { s with heap := (s.heap.push o).push { cls := .type "enumerate", data := .fields #[.none, .bool false, .ref s.heap.objs.size, rawInt k, .none, .none] } }) :=
  .of_wp fun prog w A R s h => by
    obtain ⟨hp, g, d, tk, os⟩ := s; obtain ⟨h1, h⟩ := h
    have hsub := sub_enumerate
    have hnf : (!Builtin.SmallTypes.fitsIndex k) = false := by rw [hfit]; rfl
    have q1 : ∀ {A' : Around} {E : Value → Shared → Prop} {Q : Value → Shared → Prop}, Q (.ref hp.objs.size) ⟨hp.push o, g, d, tk, os⟩ → wpAny (model prog w) A' (pyIter v) Q E ⟨hp, g, d, tk, os⟩ :=
      fun q => B.iter prog w _ _ ⟨hp, g, d, tk, os⟩ _ h1 q
    have e1 : (Str.ofString "start" == ("start" : Str)) = true := by decide +kernel
    have e2 : (Str.ofString "start" == ("iterable" : Str)) = false := by decide +kernel
    have e3 : (Str.ofString "start" != ("start" : Str)) = false := by decide +kernel
    have e4 : (Str.ofString "start" != ("iterable" : Str)) = true := by decide +kernel
    wp_walk using q1
    refine wpAny_stack_any fun st => wpAny_pure ?_
    split
    · rename_i c _ _ _ _ _
      cases (c == Value.type "enumerate")
      · wp_walk using q1
        exact ⟨_, rfl, h⟩
      · wp_walk using q1
        exact ⟨_, rfl, h⟩
    · wp_walk using q1
      exact ⟨_, rfl, h⟩
section
variable {prog : Program} {w : World} {A : Around} {E : Value → Shared → Prop} {s : Shared}
theorem enumS_begins {v : Value} {o : Obj} {H : Heap → Prop} {k : Int} {t : Tok} {Q : Value → Shared → Prop} (B : Begins v o H) (h1 : H s.heap) (hk0 : -(2 ^ 63) ≤ k) (hk1 : k < 2 ^ 63)
    (h : ∀ h', IsEnum h' (s.heap.objs.size + 1) s.heap.objs.size k .none → h'.get? s.heap.objs.size = some o → h'.objs.size = s.heap.objs.size + 2 →
      (∀ b o, s.heap.get? b = some o → h'.get? b = some o) → Q (.ref (s.heap.objs.size + 1)) { s with heap := h' }) :
    wpAny (model prog w) A (call (.type "enumerate") [v] [(Str.ofString "start", .int k t)]) Q E s := by
  refine callType_newKw F.called_enumerate (by decide) (typeCall_enum_start _ _) (newCall_enum_start _ _) (fun obj => args_object_init_start obj _ _) F.entry_enumerate_new
    (meets_enum_newS B k t (fits_start hk0 hk1)) ⟨h1, ?_⟩
  have hz : (s.heap.push o).objs.size = s.heap.objs.size + 1 := Heap.size_push ..
  show _ ∧ _
  rw [hz]
  have he : IsEnum ((s.heap.push o).push { cls := .type "enumerate", data := .fields #[.none, .bool false, .ref s.heap.objs.size, rawInt k, .none, .none] }) (s.heap.objs.size + 1) s.heap.objs.size k .none := by
    have := Heap.get?_push_size (s.heap.push o) (o := { cls := .type "enumerate", data := .fields #[.none, .bool false, .ref s.heap.objs.size, rawInt k, .none, .none] }) rfl
    rw [hz] at this; exact this
  refine ⟨⟨_, he, rfl⟩, h _ he (Heap.get?_push_of_some _ (Heap.get?_push_size _ B.free)) (by rw [Heap.size_push, hz]) fun b o x => Heap.get?_push_of_some _ (Heap.get?_push_of_some _ x)⟩
end
def YEnumN (n : Nat) (xs : List V) : Nat → List V → Prop := fun i us => ∃ x, xs[i]? = some x ∧ us = [.int ((n + i : Nat) : Int), x]
/-- enumerate(x, start=n) -/
def iEnumN (K : PySem.W.Frag) (n : Nat) (ta : TA) : TI := fun σ H R => ta σ H fun vs H1 => ∃ a xs, vs = [.ref a] ∧
  ((SqL K H1 a xs ∧ R (Itu xs.length (fun H => SqL K H a xs) (YEnumN n xs)) H1) ∨ (SqT K H1 a xs ∧ R (Itu xs.length (fun H => SqT K H a xs) (YEnumN n xs)) H1))
theorem pi_enumN {X : Cx} {e : Expr} {ta : TA} {p pos tpos : Pos} {elts : List Expr} {kk n : Nat} {kws : List Keyword} (hn : n < 1000000) (hg : Gl X "enumerate") (hm : X.mg "enumerate" = none) (ha : PA X [e] ta) (hkw : PK X kws (tCons (tC (.int (n : Nat))) tNil))
    (hs : backTo pos (starEach [e] X.env) = (false, eval e X.env) :: backTo pos (starEach [] X.env) := by rfl) (hpl : (backTo pos (starEach [e] X.env)).any (·.1) = false := by rfl)
    (hall : (backToKw pos (keywordEach kws X.env)).all (·.1.isSome) = true := by rfl) (hno : (backToKw pos (keywordEach kws X.env)).any (·.1.isNone) = false := by rfl)
    (hks : (backToKw pos (keywordEach kws X.env)).filterMap (·.1) = [Str.ofString "start"] := by rfl) :
    PI X (.Tuple elts kk tpos) (.Call (.Name "enumerate" p) [e] kws pos) (iEnumN X.K n ta) := by
  refine ⟨fun pins s0 σ H R I0 h => ?_⟩
  refine wpAny_Call_Name_kw (ld_blt I0 hg hm boot_enumerate ?_)
  refine callWith_typeKw (thn (ha.run pos pins s0 σ H _ I0 h) fun us s9 ⟨vs, H1, I9, r1, q1⟩ => ?_) hs hpl hall hno
  refine thn (hkw.run pos pins s9 σ H1 (fun zs H2 => zs = [.int (n : Nat)] ∧ H2 = H1) I9 ⟨rfl, rfl⟩) fun ws s1 ⟨zs, H2, I1', rz, ez, eH⟩ => ?_
  subst ez
  have I1 : Inv X pins σ H1 s1 := by rw [← eH]; exact I1'
  rw [hks]
  cases rz with
  | cons rb rn =>
  cases rn
  obtain ⟨tn, rfl⟩ := rb
  obtain ⟨a, xs, ex, hq⟩ := q1
  subst ex
  cases r1 with
  | cons r rr =>
    cases rr
    cases r
    have go : ∀ kd : Kd X.K a xs, kd.G H1 → R (Itu xs.length kd.G (YEnumN n xs)) H1 →
        wpAny (model X.prog X.w) X.A (call (.type "enumerate") [.ref a] [(Str.ofString "start", .int (n : Nat) tn)]) (fun v s1 => wpAny (model X.prog X.w) X.A (pyIter v) (PIE X pins σ (.Tuple elts kk tpos) R) X.xe s1) X.xe s1 := by
      intro kd g q
      obtain ⟨its, rv, hc, hlt⟩ := kd.cont X pins σ H1 s1 rfl I1 g
      refine enumS_begins (kd.begins its) hc (by omega) (by omega) fun h1 he hit hsz hk => wpAny_pyIter_enum he ?_
      have I2 : Inv X pins σ H1 { s1 with heap := h1 } := I1.kept (t' := s1.toks) hk
      refine ⟨s1.heap.objs.size + 1, [s1.heap.objs.size + 1, s1.heap.objs.size], fun i h => (∃ old, IsEnum h (s1.heap.objs.size + 1) s1.heap.objs.size (((n : Nat) : Int) + (i : Int)) old) ∧ kd.S i s1.heap.objs.size h, _, H1, rfl, I2,
        turn_of (wr := [s1.heap.objs.size + 1, s1.heap.objs.size]) (by simp) (fun b hb => hb) (fun i h st b hb => ?_) (fun i h h' st k => ?_) (fun A i s Q E st hQ => ?_) (fun Y pins' σ' H' s' hP hw hK hcalm I' g' => ?_),
        ⟨⟨.none, by rw [show ((n : Nat) : Int) + ((0 : Nat) : Int) = (n : Nat) by omega]; exact he⟩, kd.start _ _ hit⟩, fun b hb => ?_, q⟩
      · obtain ⟨⟨old, he'⟩, st'⟩ := st
        have e' : b = s1.heap.objs.size + 1 ∨ b = s1.heap.objs.size := by simpa using hb
        rcases e' with z | z
        · rw [z]; exact ⟨_, he', fun v q => nomatch q⟩
        · rw [z]; exact kd.live i _ h st'
      · obtain ⟨⟨old, he'⟩, st'⟩ := st
        exact ⟨⟨old, k _ (by simp) _ he'⟩, kd.keep i _ h h' st' fun u hu => k _ (by simp) u hu⟩
      · obtain ⟨⟨old, he'⟩, _⟩ := st
        exact wpAny_pyIter_enum he' hQ
      · obtain ⟨its', rv', hc', hlt'⟩ := kd.cont Y pins' σ' H' s' hK I' g'
        have ne1 : a ≠ s1.heap.objs.size := Nat.ne_of_lt hlt
        have D := kd.draws Y.prog Y.w Y.A.in1 s1.heap.objs.size its' (I'.ok.hd hcalm) ne1
        have W := WalksT.enumFrom (A := Y.A) ((n : Nat) : Int) D (s1.heap.objs.size + 1) (Nat.succ_ne_self _) (fun hm => by
          have e' : s1.heap.objs.size + 1 = s1.heap.objs.size ∨ s1.heap.objs.size + 1 = a := by simpa using hm
          rcases e' with z | z
          · exact absurd z (Nat.succ_ne_self _)
          · rw [← z] at hlt; exact absurd (Nat.lt_trans (Nat.lt_succ_self _) hlt) (Nat.lt_irrefl _)) (by simp)
        rw [hP, hw] at W
        have e : (fun (i : Nat) (h : Heap) => (∃ old, IsEnum h (s1.heap.objs.size + 1) s1.heap.objs.size (((n : Nat) : Int) + (i : Int)) old) ∧ kd.S i s1.heap.objs.size h ∧ kd.C its' h) = fun (i : Nat) (h : Heap) => ((∃ old, IsEnum h (s1.heap.objs.size + 1) s1.heap.objs.size (((n : Nat) : Int) + (i : Int)) old) ∧ kd.S i s1.heap.objs.size h) ∧ kd.C its' h := by
          funext i h; rw [and_assoc]
        rw [e, ← rv'.length] at W
        refine ⟨_, _, _, kd.C its', W, hc', ?_⟩
        · rintro i vals ⟨t, x, hx, rfl⟩
          have hx' : its'[i]? = some x := hx
          have hl : i < xs.length := by rw [rv'.length]; exact (List.getElem?_eq_some_iff.mp hx').1
          obtain ⟨u, hu, ru⟩ := rv'.get (List.getElem?_eq_getElem hl)
          rw [hx'] at hu
          cases hu
          refine ⟨[.int ((n + i : Nat) : Int), xs[i]], .cons ⟨t, ?_⟩ (.cons ru .nil), ⟨_, List.getElem?_eq_getElem hl, rfl⟩, by show 2 ≤ sizeLine; decide⟩
          rw [show ((n + i : Nat) : Int) = (n : Int) + (i : Int) by omega]
      · have e' : b = s1.heap.objs.size + 1 ∨ b = s1.heap.objs.size := by simpa using hb
        have hle : s1.heap.objs.size ≤ b := by
          rcases e' with z | z
          · rw [z]; exact Nat.le_add_right _ _
          · rw [z]; exact Nat.le_refl _
        exact I1.fpOk hle (I1.hok.fresh hle)
    rcases hq with ⟨g, q⟩ | ⟨g, q⟩
    · exact go (kdL X.K a xs) g q
    · exact go (kdT X.K a xs) g q
theorem pi_enumNK {X : Cx} {K : PySem.W.Frag} {e : Expr} {ta : TA} {p pos tpos : Pos} {elts : List Expr} {kk n : Nat} {kws : List Keyword} (hn : n < 1000000) (hg : Gl X "enumerate") (hm : X.mg "enumerate" = none) (ha : PA X [e] ta) (hkw : PK X kws (tCons (tC (.int (n : Nat))) tNil))
    (hK : X.K = K := by rfl)
    (hs : backTo pos (starEach [e] X.env) = (false, eval e X.env) :: backTo pos (starEach [] X.env) := by rfl) (hpl : (backTo pos (starEach [e] X.env)).any (·.1) = false := by rfl)
    (hall : (backToKw pos (keywordEach kws X.env)).all (·.1.isSome) = true := by rfl) (hno : (backToKw pos (keywordEach kws X.env)).any (·.1.isNone) = false := by rfl)
    (hks : (backToKw pos (keywordEach kws X.env)).filterMap (·.1) = [Str.ofString "start"] := by rfl) :
    PI X (.Tuple elts kk tpos) (.Call (.Name "enumerate" p) [e] kws pos) (iEnumN K n ta) := hK ▸ pi_enumN hn hg hm ha hkw hs hpl hall hno hks
/-- a statement that is never reached -/
def tDead : TS := fun _ _ _ => False
theorem ps_dead {X : Cx} {st : Stmt} : PS X st tDead := ⟨fun _ _ _ _ _ _ h => h.elim⟩
end L3

/-! C.m(..), m a staticmethod of the class C. -/
namespace L3
open PySem PySem.Spec PyProof.Rows L2
/-- C.m is a staticmethod: its record at p, its def at g -/
structure SMet (K : PySem.W.Frag) (C : Addr) (mc : Value) (m : Str) (p g : Addr) : Prop where
  at_ : PySem.W.findCls K (.ref C) mc m = some (.get (.builtin "staticmethod.__get__") (.ref p) .none (.ref C))
  rc : ∃ rest, PySem.W.recIn K p "staticmethod" = some (.ref g :: rest)
structure Csm (P : Program) (w : World) (K : PySem.W.Frag) (mg : Str → Option Value) (base : Heap) (CX : CXT) (k : Nat) (x m : Str) (sp : Sp) : Prop where
  ex : ∃ (C p g : Addr) (mc : Value) (fd : FuncData) (ps : List Str), mg x = some (.ref C) ∧ ClX.CRead K C mc ∧ SMet K C mc m p g ∧ FnG P w K mg base CX k g fd ps sp ∧ PySem.W.keepIn K (.ref g) = true ∧ Binds K fd ps []
section
variable {X : Cx} {CX : CXT} {j k : Nat} {sp : Sp} {E : XK} {x m : Str} {p apos pos : Pos} {e : Expr} {es : List Expr} {t : TA} {pl : Sem Bool}
theorem pe_sm (c : Csm X.prog X.w X.K X.mg X.base CX k x m sp) (hgd : X.A.guards = some []) (hr : Room j X.A) (hk : k ≤ j) (hg : Gl X x) (hx : Passes CX X E) (ha : PA X (e :: es) t)
    (hdb : (x == ("__debug__" : Str)) = false := by decide) (he : starEach (e :: es) X.env = (false, eval e X.env) :: starEach es X.env := by rfl) (hpl : (backTo pos (starEach es X.env)).any (·.1) = false := by rfl)
    (ht : eval (.Call (.Attribute (.Name x p) m apos) (e :: es) [] pos) X.env = (do
      let ov ← eval (.Name x p) X.env
      standAt apos.atName
      let (f, first) ← holding [ov] (getMethod ov m pl)
      callWith pos f first (backTo pos (starEach (e :: es) X.env)) (backToKw pos (keywordEach [] X.env))) := by rfl) :
    PE X (.Call (.Attribute (.Name x p) m apos) (e :: es) [] pos) (tCall sp [] E t) := by
  obtain ⟨C, q, g, mc, fd, ps, hm, r, c, F, kp, b⟩ := c.ex
  refine ⟨fun pins s σ H Q I h => ?_⟩
  refine PySem.W.methodCall_KW (pl := pl) (ld_glob I hg hm ?_ hdb) ht
  obtain ⟨rest, hp⟩ := c.rc
  refine PySem.W.method_cls I.kIn r.ga (PySem.W.cls_bind I.kIn r.rd c.at_ (wpAny_call (PySem.W.sm_get (s := { s with toks := s.toks + 1 }) I.kIn hp (PySem.W.handed_on rfl ?_))))
  have I1 : Inv X pins σ H { s with toks := s.toks + 1 } := I.tok _
  refine PySem.W.callWith_K (h₀ := X.base) I1.ok.mod.kin kp ?_ he hpl
  refine thn (ha.run pos pins _ σ H _ I1 h) fun us s1 ⟨vs, H1, I2, rv, q2⟩ => ⟨I2.kIn, ?_⟩
  have q3 : sp (vs ++ []) H1 Q E := q2
  rw [List.append_nil] at q3
  have hb := b s1 us I2.kIn (by rw [List.append_nil, ← rv.length]; exact F.len _ _ _ _ q3)
  rw [List.append_nil] at hb
  exact run_g F hgd (hr.mono hk) hb hx I2 rv q3
end
end L3

/-! enumerate with a start, range with a step, setdefault, sorted(dict), statements that are never reached. -/
namespace L5
open PySem PySem.Spec PyProof.Rows L2 L3
section
variable {K : PySem.W.Frag} {W W' : Wd} {S : Sto} {H : Hp} {P : AV} {Q : VK} {I : Hp} {ad : List Addr}
/-! ### enumerate(x, start=n) -/
@[reducible] def aEnumN (n : Nat) (t : ATA) : ATI := fun ρ S R => t ρ S fun ps S1 => on1 ps fun x => onF x fun xs => R cT (enumI n xs) S1
theorem si_enumN {n : Nat} {t : TA} {f : ATA} (ha : SA K t f) : SI K (iEnumN K n t) (aEnumN n f) := ⟨fun I E h c =>
  ha.run I E h fun W1 S1 xs ps H1 l1 I1 r1 h1 => by
    obtain ⟨v, p, rfl, rfl, r, h1⟩ := r1.on1 h1
    obtain ⟨a, us, ys, rfl, hq, rs, h1⟩ := r.onF h1
    have hY : ∀ i it vs, (enumI n ys)[i]? = some it → YEnumN n us i vs → ∃ xs, it = .many xs ∧ VRs K W1.I W1.ad vs xs := fun i it vs e ⟨x, hx, eu⟩ => by
      obtain ⟨p, hp, rfl⟩ := enumI_get e
      obtain ⟨v, hv, rv⟩ := rs.get hp
      rw [hx] at hv
      cases hv
      subst eu
      exact ⟨_, rfl, .cons (.int _) (.cons rv .nil)⟩
    have hn : (enumI n ys).length = us.length := by rw [enumI_len, rs.length]
    rcases hq with hq | hq
    · exact ⟨a, us, rfl, .inl ⟨SqL.up I1.exH hq, c _ _ _ _ _ _ l1 I1 (yl_u hn (fun W' S H l I' => SqL.up (l.ex.trans I'.exH) hq) hY) h1⟩⟩
    · exact ⟨a, us, rfl, .inr ⟨SqT.up I1.exH hq, c _ _ _ _ _ _ l1 I1 (yl_u hn (fun W' S H l I' => SqT.up (l.ex.trans I'.exH) hq) hY) h1⟩⟩⟩
/-! ### range(i, j, c) -/
def rngC (lo c : Int) (n : Nat) : List AItem := (List.range n).map fun i => .one (.int (lo + (i : Nat) * c))
theorem rngC_get {lo c : Int} {n i : Nat} {it : AItem} (h : (rngC lo c n)[i]? = some it) : i < n ∧ it = .one (.int (lo + (i : Nat) * c)) := by
  unfold rngC at h
  rw [List.getElem?_map] at h
  by_cases hi : i < n
  · rw [List.getElem?_range hi] at h
    cases h
    exact ⟨hi, rfl⟩
  · rw [List.getElem?_eq_none (by rw [List.length_range]; omega)] at h
    cases h
theorem rngC_len {lo c : Int} {n : Nat} : (rngC lo c n).length = n := by unfold rngC; simp
theorem yl_rngC {lo c : Int} {n : Nat} : Yl K W (Itc lo c n) cT (rngC lo c n) where
  go := fun W' S H i l I' _ hi => by rw [rngC_len] at hi; exact hi
  stop := fun W' S H l I' _ => by rw [rngC_len]; exact Nat.le_refl n
  yld := fun W' S H i it x H' l I' _ e ⟨e1, e2⟩ => by
    obtain ⟨_, rfl⟩ := rngC_get e
    subst e1 e2
    exact ⟨I', .one (.int _)⟩
@[reducible] def aRng3 (t : ATA) : ATI := fun ρ S R => t ρ S fun ps S1 => match ps with
  | [x, y, z] => onI2 x y fun i j => onI z fun c => ∃ n, RgC i j c n ∧ R cT (rngC i c n) S1
  | _ => False
theorem si_rng3 {t : TA} {f : ATA} (ha : SA K t f) : SI K (iRng3 t) (aRng3 f) := ⟨fun {W S σ ρ H R P} I E h c =>
  ha.run I E h fun W1 S1 xs ps H1 l1 I1 r1 h1 => by
    cases r1 with
    | nil => exact h1.elim
    | cons r1 r2 => cases r2 with
      | nil => exact h1.elim
      | cons r2 r3 => cases r3 with
        | nil => exact h1.elim
        | cons r3 r4 => cases r4 with
          | cons _ _ => exact h1.elim
          | nil =>
            obtain ⟨i, j, rfl, rfl, h1⟩ := r1.onI2 r2 h1
            obtain ⟨k, rfl, _, n, hk, h1⟩ := r3.onI h1
            exact ⟨i, j, k, n, rfl, hk, c _ _ _ _ _ _ l1 I1 yl_rngC h1⟩⟩
/-! ### never reached -/
@[reducible] def aDead : ATS := fun _ _ _ => False
theorem ss_dead : SS K tDead aDead := ⟨fun _ _ h _ => h.elim⟩
/-! ### d.setdefault(k, z) of an own dict -/
inductive dSetd (ks : List Key) (xs : List PV) (k : Key) (z : PV) (n : Nat) (S : Sto) (P : AV) : Prop where
  | hit (i : Nat) (p : PV) (h1 : ks[i]? = some k) (h2 : xs[i]? = some p) (h : P p S)
  | miss (h1 : k ∉ ks) (h : P z (spo S n (.dct (ks ++ [k]) (xs ++ [z]))))
variable {ta te tv : TE} {fa fe fv : ATE}
@[reducible] def aDSetd (d k v : ATE) : ATE := fun ρ S P => d ρ S fun x S1 => onD (dctOf x S1) fun _ _ => k ρ S1 fun y S2 => v ρ S2 fun z S3 => onOwnD x S3 fun n ks xs => onKey y fun k => dSetd ks xs k z n S3 P
theorem se_dsetd (ha : SE K ta fa) (he : SE K te fe) (hv : SE K tv fv) : SE K (tDSetd ta te tv) (aDSetd fa fe fv) := ⟨fun I E h c =>
  ha.run I E h fun W1 S1 x p H1 l1 I1 r1 ⟨ks0, xs0, e0, h1⟩ => by
    obtain ⟨a, kvs0, rfl, h30, _, _, _⟩ := r1.dct_at I1 e0
    refine ⟨a, rfl, .inl ⟨kvs0, .of h30⟩, he.run I1 (E.up l1.toLo) h1 fun W2 S2 y q H2 l2 I2 r2 h2 => hv.run I2 (E.up (l1.trans l2).toLo) h2 fun W3 S3 z pz H3 l3 I3 r3 ⟨n, ks, xs, ep, e, hn, h4⟩ => ?_⟩
    subst ep
    have l := (l1.trans l2).trans l3
    obtain ⟨a', kvs, ea, h3, h5, h6, h7, up⟩ := I3.atD (r1.up (l2.trans l3).toLo) (sgetD_eq e)
    cases ea
    obtain ⟨k, rfl, hd⟩ := (r2.up l3.toLo).onKey h4
    have hl : kvs.length < sizeLine := by
      have e1 := congrArg List.length h5
      rw [List.length_map] at e1
      rw [e1, sizeLine_eq]
      omega
    cases hd with
    | hit i p hi hz hp =>
      obtain ⟨v, hv, rv⟩ := dget_at h5 h6 h7 hi hz
      refine ⟨kvs, k, h3, rfl, hl, fun v' e' => ?_, fun e' => ?_⟩
      · rw [hv] at e'
        cases e'
        exact c _ _ _ _ _ l I3 rv hp
      · rw [hv] at e'; cases e'
    | miss hk hp =>
      have hno : valV kvs k = none := val_none (by rw [h5]; exact hk)
      obtain ⟨g1, g2, g3⟩ := dput_new h5 h6 h7 hk r3
      refine ⟨kvs, k, h3, rfl, hl, fun v' e' => ?_, fun _ => ?_⟩
      · rw [hno] at e'; cases e'
      · exact c _ _ _ _ _ l (by rw [spo_eq]; exact up _ _ _ g1 g2 g3) r3 hp⟩
/-! ### sorted(d) of a dict with ints as keys -/
def rSortedDI (H0 : Unit) : List V → Hp → VK → Prop := fun xs H Q => ∃ (a : Addr) (kvs : List (Key × V)) (ks : List Int), xs = [.ref a] ∧ Rd H a (.dK kvs) ∧ kvs.map (·.1) = ks.map Sum.inl ∧ ks.length < 64 ∧
    ∀ (ys : List Int) (p : Addr), ys.Perm ks → ys.Pairwise (· ≤ ·) → H p = none → Q (.ref p) (upd H p (.lst (ys.map V.int)))
theorem kSortedDI {X : Cx} (hc : X.calm = true) : CallR X (.builtin "sorted") (rSortedDI ()) := call_sortedDI hc
@[reducible] def vSortedDI : AL := fun xs S P => on1 xs fun x => onD (dctOf x S) fun ks _ => ∃ ns : List Int, ks = ns.map Sum.inl ∧ ns.length < 64 ∧ ∀ ys : List Int, ys.Perm ns → ys.Pairwise (· ≤ ·) → P (.lst (ys.map .int)) S
theorem sl_sortedDI : SL K (rSortedDI ()) vSortedDI := ⟨fun {W S xs ps H Q P} I r h c => by
  obtain ⟨v, p, rfl, rfl, r, h⟩ := r.on1 h
  obtain ⟨ks, xs, e, ns, h1, h2, h⟩ := h
  obtain ⟨a, kvs, rfl, h3, h4, h5, h6⟩ := r.dct_at I e
  refine ⟨a, kvs, ns, rfl, .of h3, by rw [← h1, ← h4], h2, fun ys p hp hs hn => ?_⟩
  exact I.newL (VRs.ints ys) c (h ys hp hs) p hn⟩
/-! ### list(range(n)), tuple(range(n)) -/
@[reducible] def aTupRg1 (a : ATE) : ATE := fun ρ S P => a ρ S fun x S1 => onI x fun j => RgOk 0 j ∧ P (.tup (rgP 0 j)) S1
@[reducible] def aLstRg1 (a : ATE) : ATE := fun ρ S P => a ρ S fun x S1 => onI x fun j => RgOk 0 j ∧ P (.lst (rgP 0 j)) S1
@[reducible] def aLstRg1O (a : ATE) : ATE := fun ρ S P => a ρ S fun x S1 => onI x fun j => RgOk 0 j ∧ newO S1 (.lst (rgP 0 j)) P
theorem se_tupRg1 (ha : SE K ta fa) : SE K (tTupRgF (tRg1 ta)) (aTupRg1 fa) := ⟨fun I E h c =>
  ha.run I E h fun W1 S1 x p H1 l1 I1 r1 h1 => by
    obtain ⟨j, rfl, _, hk, h3⟩ := r1.onI h1
    exact ⟨j, rfl, hk, I1.newT (rg_rel 0 j) (c.up l1) h3⟩⟩
theorem se_lstRg1 (ha : SE K ta fa) : SE K (tLstRg (tRg1 ta)) (aLstRg1 fa) := ⟨fun I E h c =>
  ha.run I E h fun W1 S1 x p H1 l1 I1 r1 h1 => by
    obtain ⟨j, rfl, _, hk, h3⟩ := r1.onI h1
    exact ⟨j, rfl, hk, I1.newL (rg_rel 0 j) (c.up l1) h3⟩⟩
theorem se_lstRg1O (ha : SE K ta fa) : SE K (tLstRg (tRg1 ta)) (aLstRg1O fa) := ⟨fun I E h c =>
  ha.run I E h fun W1 S1 x p H1 l1 I1 r1 h1 => by
    obtain ⟨j, rfl, _, hk, h3⟩ := r1.onI h1
    exact ⟨j, rfl, hk, I1.newO (rg_rel 0 j) (c.up l1) h3⟩⟩
@[reducible] def aLstRg2O (a b : ATE) : ATE := fun ρ S P => a ρ S fun x S1 => b ρ S1 fun y S2 => onI2 x y fun i j => RgOk i j ∧ newO S2 (.lst (rgP i j)) P
theorem se_lstRg2O (ha : SE K ta fa) (hb : SE K tb fb) : SE K (tLstRg (tRg2 ta tb)) (aLstRg2O fa fb) := ⟨fun I E h c =>
  ha.run I E h fun W1 S1 x p H1 l1 I1 r1 h1 => hb.run I1 (E.up l1.toLo) h1 fun W2 S2 y q H2 l2 I2 r2 h2 => by
    obtain ⟨i, j, rfl, rfl, hk, h3⟩ := (r1.up l2.toLo).onI2 r2 h2
    exact ⟨i, j, rfl, rfl, hk, I2.newO (rg_rel i j) (c.up (l1.trans l2)) h3⟩⟩
/-! ### o.NAME, a constant of o's class -/
structure CN (C : Addr) (N : List Str) (c : Addr) (nm : List Str) (P : Prop) : Prop where
  e1 : C = c
  e2 : N = nm
  h : P
@[reducible] def aCon (c : Addr) (nm : List Str) (i : Int) (a : ATE) : ATE := fun ρ S P => a ρ S fun x S1 => onIns x S1 fun C N _ => CN C N c nm (P (.int i) S1)
theorem se_con {c : Addr} {nm : List Str} {g : Str} {i : Int} (hc : ∃ u, Con K c g (.int i) u) (hn : g ∉ nm) (ha : SE K ta fa) : SE K (tCon K ta g) (aCon c nm i fa) := ⟨fun I E h c' =>
  ha.run I E h fun W1 S1 x p H1 l1 I1 r1 ⟨C, N, xs, e, e1, e2, h1⟩ => by
    subst e1 e2
    obtain ⟨a, dx, fs, rfl, h2, h3, h4, h5, h6⟩ := r1.ins_at I1 e
    obtain ⟨u, hu⟩ := hc
    exact ⟨a, _, dx, fs, .int i, u, rfl, h2, h3.cl, hu, no_at h5 hn, c' _ _ _ _ _ l1 I1 (.int i) h1⟩⟩
end
section
variable {K : PySem.W.Frag}
theorem pe_conK {X : Cx} {e : Expr} {te : TE} {f : Str} {pos : Pos} (he : PE X e te) (hK : X.K = K := by rfl) (hb : attributeBase e f X.env (eval e X.env) = eval e X.env := by rfl) : PE X (.Attribute e f pos) (tCon K te f) := hK ▸ pe_con he hb
end
end L5

/-! l.pop(i) of an own list; a def that hands back its own list, which nobody changes from then on. -/
namespace L5
open PySem PySem.Spec PyProof.Rows L2 L3
section
variable {K : PySem.W.Frag} {W : Wd} {H : Hp}
@[reducible] def vPopAt : AM := fun x ys S P => on1 ys fun y => onI y fun i => onK x S fun k xs => 0 ≤ i ∧ i < xs.length ∧ xs.length ≤ 1000 ∧ onO xs[i.toNat]? fun y => P y (sput S k (xs.eraseIdx i.toNat))
theorem VRs.eraseIdx {I : Hp} {ad : List Addr} : ∀ {us : List V} {xs : List PV} (i : Nat), VRs K I ad us xs → VRs K I ad (us.eraseIdx i) (xs.eraseIdx i)
  | _, _, _, .nil => .nil
  | _, _, 0, .cons _ hs => hs
  | _, _, i + 1, .cons h hs => .cons h (VRs.eraseIdx i hs)
theorem sm_popAt : SM K rPopAt vPopAt := ⟨fun {W S x p xs ps H Q P} I r rs h c => by
  obtain ⟨w, q, rfl, rfl, r2, h⟩ := rs.on1 h
  obtain ⟨i, rfl, _, h⟩ := r2.onI h
  obtain ⟨a, us, k, zs, rfl, rfl, e, r3, _, up, h0, h1, h2, y, ey, h⟩ := r.onK I h
  obtain ⟨v, ev, rv⟩ := r3.get ey
  refine ⟨a, us, i, i.toNat, v, rfl, rfl, e, by omega, by omega, ?_, ev, c.at (up _ _ (r3.eraseIdx _)) rv h⟩
  rw [r3.length]
  unfold seqIndex?
  simp only [if_neg (show ¬ i < 0 by omega), decide_eq_true h0, decide_eq_true h1, Bool.and_self, if_true]⟩
@[reducible] def vAbs : AL := fun xs S P => on1 xs fun x => onI x fun i => P (.int (if i < 0 then -i else i)) S
theorem sl_abs : SL K (fun xs H Q => ∃ i, xs = [.int i] ∧ Q (.int (if i < 0 then -i else i)) H) vAbs := ⟨fun I r h c => by
  obtain ⟨v, p, rfl, rfl, r, h⟩ := r.on1 h
  obtain ⟨i, rfl, _, h⟩ := r.onI h
  exact ⟨i, rfl, c.at I (.int _) h⟩⟩
theorem Own.freezesM : ∀ {L R : PL} {I : Hp}, Own I (L ++ R) H → ∃ I', Ex I I' ∧ Own I' R H ∧ ∀ q ∈ L, I' q.1 = some q.2
  | [], R, I, O => ⟨I, Ex.refl I, O, fun _ h => nomatch h⟩
  | (p, o) :: L, R, I, O => by
    obtain ⟨I', e, O', m⟩ := Own.freezesM (L := L) (R := R) (Own.freeze (ps := L ++ R) O)
    refine ⟨I', (Own.exf (ps := L ++ R) O).trans e, O', fun q hq => ?_⟩
    rcases List.mem_cons.mp hq with rfl | hq
    · exact e _ _ (upd_same ..)
    · exact m q hq
theorem In.trimM {S1 J : Sto} (h : In K W (S1 ++ J) H) (hb : blwS S1.length S1 = true) : ∃ I', Ex W.I I' ∧ In K ⟨I', W.ad.take S1.length, W.fr⟩ S1 H ∧
    ∀ (k : Nat) (a : Addr) (xs : List PV), S1.length ≤ k → W.ad[k]? = some a → (S1 ++ J)[k]? = some (.lst xs) → blws S1.length xs = true → VR K I' (W.ad.take S1.length) (.ref a) (.lst xs) := by
  obtain ⟨os, O, h1, h2, h3⟩ := h.ex
  have hl : S1.length ≤ os.length := by rw [h2, List.length_append]; omega
  have e1 : W.ad.zip os = (W.ad.take S1.length).zip (os.take S1.length) ++ (W.ad.drop S1.length).zip (os.drop S1.length) := by
    rw [← List.zip_append (by rw [List.length_take, List.length_take, h1]), List.take_append_drop, List.take_append_drop]
  have O1 : Own W.I ((W.ad.drop S1.length).zip (os.drop S1.length) ++ ((W.ad.take S1.length).zip (os.take S1.length) ++ W.fr)) H := by
    refine O.perm ?_
    rw [e1, ← List.append_assoc]
    exact List.Perm.append_right _ List.perm_append_comm
  obtain ⟨I', ex, O2, fz⟩ := Own.freezesM O1
  refine ⟨I', ex, ⟨os.take S1.length, O2, by rw [List.length_take, List.length_take, h1], by rw [List.length_take]; omega, fun k o a q1 q2 => ?_⟩, fun k a xs hk ha hx hbx => ?_⟩
  · have hk : k < S1.length := (List.getElem?_eq_some_iff.mp q2).1
    rw [List.getElem?_take_of_lt hk] at q1
    have := h3 k o a q1 (by rw [List.getElem?_append_left hk]; exact q2)
    exact OR.up (W := ⟨W.I, W.ad.take S1.length, []⟩) (W' := ⟨I', W.ad.take S1.length, []⟩) ⟨ex, fun _ _ e => e⟩ (this.cut (blwS_at hb q2))
  · have hk2 : k < os.length := by rw [h1]; exact (List.getElem?_eq_some_iff.mp ha).1
    have ho := h3 k os[k] _ (List.getElem?_eq_getElem hk2) hx
    have hm : (a, os[k]) ∈ (W.ad.drop S1.length).zip (os.drop S1.length) := by
      refine List.mem_of_getElem? (i := k - S1.length) (zip_get ?_ ?_)
      · rw [List.getElem?_drop, show S1.length + (k - S1.length) = k by omega]; exact ha
      · rw [List.getElem?_drop, show S1.length + (k - S1.length) = k by omega]; exact List.getElem?_eq_getElem hk2
    have hI := fz _ hm
    generalize os[k] = o at *
    cases ho with
    | lst hv =>
      exact .lst hI (VRs.up (W := ⟨W.I, W.ad.take S1.length, []⟩) (W' := ⟨I', W.ad.take S1.length, []⟩) ⟨ex, fun _ _ e => e⟩ (hv.cutB hbx))
/-- as it is, or the own list that is handed back, from now on changed by nobody -/
def trimF (n : Nat) (P : AV) : AV := fun p S => P p S ∨ ∃ S1 J k xs, S = S1 ++ J ∧ n ≤ S1.length ∧ p = .own k ∧ S1.length ≤ k ∧ (S1 ++ J)[k]? = some (.lst xs) ∧ blws S1.length xs = true ∧ blwS S1.length S1 = true ∧ P (.lst xs) S1
theorem CE.trimF {P : AV} {Q : VK} (c : CE K W P Q) (hn : W.ad.length ≤ n) : CE K W (trimF n P) Q := fun W' S' v p H' l I' r h => by
  rcases h with h | ⟨S1, J, k, xs, rfl, h1, rfl, h2, h3, h4, h5, h⟩
  · exact c _ _ _ _ _ l I' r h
  · obtain ⟨I2, ex, I3, fz⟩ := I'.trimM h5
    cases r with
    | own ha => exact c _ _ _ _ _ (I'.trim_le l (by omega) ex) I3 (fz k _ xs h2 ha h3 h4) h
end
section
variable {P : Program} {w : World} {K : PySem.W.Frag} {mg : Str → Option Value} {base : Heap} {k : Nat} {f : Addr} {fd : FuncData} {ps : List Str} {g : AL}
/-- a def's promise: its own list is handed back, and changed by nobody -/
def trimLF (g : AL) : AL := fun vs S P => blwS S.length S = true → g vs S (trimF S.length P)
theorem fnG_trimF (F : FnG P w K mg base CX0 k f fd ps (cSp K g)) : FnG P w K mg base CX0 k f fd ps (cSp K (trimLF g)) :=
  F.imp fun vs H Q E ⟨W, S, qs, R, I, r, z, c⟩ => ⟨W, S, qs, _, I, r, z I.closed, c.trimF (Nat.le_of_eq I.ad_len)⟩
theorem r_trimF {P : AV} {S J : Sto} {k : Nat} {xs : List PV} (hk : S.length ≤ k) (h0 : (S ++ J)[k]? = some (.lst xs)) (h1 : blws S.length xs = true) (h2 : blwS S.length S = true) (h : P (.lst xs) S) : trimF S.length P (.own k) (S ++ J) := .inr ⟨S, J, k, xs, rfl, Nat.le_refl _, rfl, hk, h0, h1, h2, h⟩
end
end L5

/-! {elt for target in iter if ..}, elt an int. -/
namespace L3
open PySem PySem.Spec PyProof.Rows L2
section
variable {X : Cx}
/-- what is added to the set at D -/
def scAdd (w : World) (D : Addr) (Nx : Hp → Prop) : VK := fun y H4 => ∃ (c : Int) (S : Int → Bool) (n : Nat), y = .int c ∧ H4 D = some (SetO w D S n) ∧ n + 1 < scanBound ∧ Nx (upd H4 D (SetO w D (fun j => S j || decide (j = c)) (if S c = true then n else n + 1)))
/-- D: the new set -/
def tScI (w : World) (wi : TI) (g : TG) (tt : TT) (te : TE) (vs : List Nat) : TE := fun σ H Q => wi σ H fun J H1 => ∀ D, H1 D = none → ∃ W : Nat → Nat → Hp → Prop, (∃ m, W 0 m (upd H1 D (SetO w D (fun _ => false) 0))) ∧ ∀ i m H, W i m H →
  (J.stop i H ∧ Q (.ref D) H) ∨ (J.go i H ∧ ∃ Nx : Hp → Prop, (∀ H', Nx H' → ∃ m', m' < m ∧ W (i + 1) m' H') ∧ ∀ x H', J.yld i H x H' → g x (wipe σ vs) H' fun σ2 H2 => wipe σ2 vs = wipe σ vs ∧ tt σ2 H2 fun b H3 =>
    if b = true then te σ2 H3 (scAdd w D Nx) else Nx H3)
theorem sc_add {pins : List (Addr × Obj)} {σ : L2.St} {H : Hp} {s : Shared} {E : Value → Shared → Prop} {D : Addr} {Nx : Hp → Prop} {y : V} {v : Value} {Q : Value → Shared → Prop} (I : Inv X pins σ H s) (r : RelV y v) (h : scAdd X.w D Nx y H)
    (q : ∀ s' H', Inv X pins σ H' s' → Nx H' → Q .none s') : wpAny (model X.prog X.w) X.A (call (.builtin "set.add") [.ref D, v]) Q E s := by
  obtain ⟨c, S, n, rfl, hD, hn, hx⟩ := h
  obtain ⟨t, rfl⟩ := r
  refine setR_add (setO_get I hD) hn fun h' sb new => ?_
  have R := new
  obtain ⟨o, _, _, _, ho, _⟩ := R
  exact q _ _ (I.write (e := D) (t' := s.toks + 1) (by rw [hD]; trivial) (.inl rfl) (fun b u hb hu => (sb.2 b hb).trans hu) ⟨o, ho⟩ (setO_new new)) hx
/-- the block's comprehension, an int at each turn -/
theorem pe_scI {elt tg iter : Expr} {ifs : List Expr} {scope : Scope} {own : List (PySem.Str × Nat)} {pos : Pos} {wi : TI} {g : TG} {tt : TT} {te : TE} (hc : X.calm = true) (hN : X.N.Nodup) (hi : PI X tg iter wi) (ok : BlkOk X.N X.env.scope scope own)
    (hg : ∀ (s : Shared) (H : Hp) (C : Addr) (cl : List (PySem.Str × Addr)) (fp : List Addr), PG (X.blk s H scope (compEnvC scope cl C X.env) fp) tg g) (ht : ∀ (s : Shared) (H : Hp) (C : Addr) (cl : List (PySem.Str × Addr)) (fp : List Addr), PTs (X.blk s H scope (compEnvC scope cl C X.env) fp) ifs tt)
    (he : ∀ (s : Shared) (H : Hp) (C : Addr) (cl : List (PySem.Str × Addr)) (fp : List Addr), PE (X.blk s H scope (compEnvC scope cl C X.env) fp) elt te) (hs : ∀ x, foldedSetIterable iter X.env x = pure x := by intro _; rfl) :
    PE X (.SetComp elt [⟨tg, iter, ifs, 0⟩] scope pos) (tScI X.w wi g tt te (own.map (·.2))) := by
  refine ⟨fun pins s σ H Q I h => ?_⟩
  rw [PpSet.eval_SetComp]
  have cells : ∀ y ∈ scope.names, y.2 = .free → ∃ c, X.env.cells.lookup y.1 = some c := fun y hy e => (ok.free y hy e).elim (fun k => I.ok.has _ (.inl k)) fun k => I.ok.has _ (.inr k)
  refine wpAny_comprehension_free (use := none) rfl hs (closure_ok cells) ok.kind (fun y hy e => by rw [ok.uniq y hy, e])
    (thn (hi.run pins s σ H _ I h) fun xv s1 hx => thn hx fun itv s2 h2 => ?_)
  obtain ⟨it, fp, tn, J, H2, rfl, I2, T, st2, f2, q⟩ := h2
  refine PpSet.newSet_ok (newEnv_comp ?_)
  obtain ⟨D, hD⟩ : ∃ D, D = s2.heap.objs.size := ⟨_, rfl⟩
  rw [← hD]
  have nD : H2 D = none := I2.hok.fresh (Nat.le_of_eq hD.symm)
  obtain ⟨W, ⟨m0, w0⟩, turn⟩ := q D nD
  obtain ⟨s3, hs3⟩ : ∃ s3 : Shared, s3 = { s2 with heap := s2.heap.push { cls := .type "set", dict := none, data := .set #[] 0 (.fresh 0 0 (!X.w.params.followText "set-order")) } } := ⟨_, rfl⟩
  have h3 : s3.heap = s2.heap.push { cls := .type "set", dict := none, data := .set #[] 0 (.fresh 0 0 (!X.w.params.followText "set-order")) } := by rw [hs3]
  obtain ⟨H3, hH3⟩ : ∃ H3, H3 = upd H2 D (SetO X.w D (fun _ => false) 0) := ⟨_, rfl⟩
  rw [← hH3] at w0
  have I3 : Inv X pins σ H3 s3 := by
    rw [hs3, hH3]
    refine I2.laid (t' := s2.toks) (fun b o e => Heap.get?_push_of_some _ e) (Nat.le_of_eq hD.symm) ?_
    rw [hD]
    exact setO_new (setR_fresh X.w)
  have old : ∀ b ∈ fp, b < s2.heap.objs.size := fun b hb => let ⟨o, e, _⟩ := T.obj _ _ st2 b hb; Heap.lt_size e
  have f3 : ∀ b ∈ fp, FpOk X pins H3 b ∧ b < s3.heap.objs.size := fun b hb => by
    have := old b hb
    refine ⟨⟨?_, (f2 b hb).2⟩, by rw [h3, Heap.size_push]; exact Nat.lt_succ_of_lt this⟩
    rw [hH3, upd_ne (by rw [hD]; exact Nat.ne_of_lt this)]
    exact (f2 b hb).1
  have st3 : tn 0 s3.heap := T.keep _ _ _ st2 fun b _ o e => by rw [h3]; exact Heap.get?_push_of_some _ e
  have I4 := block_start I3 ok hN f3
  obtain ⟨cl, hcl⟩ : ∃ cl, cl = cellsFrom (s3.heap.objs.size + 1) scope.names (cloFrom X.env.cells scope.names []) := ⟨_, rfl⟩
  rw [← hcl] at I4
  obtain ⟨ce, hce⟩ : ∃ ce, ce = compEnvC scope cl s3.heap.objs.size X.env := ⟨_, rfl⟩
  have pg := hg s3 H3 s3.heap.objs.size cl fp
  have pt := ht s3 H3 s3.heap.objs.size cl fp
  have pe := he s3 H3 s3.heap.objs.size cl fp
  rw [← hce] at I4 pg pt pe
  obtain ⟨s4, hs4⟩ : ∃ s4 : Shared, s4 = { s3 with heap := pushCells (s3.heap.push { cls := .type "dict", data := .dict #[] }) scope.names } := ⟨_, rfl⟩
  rw [← hs4] at I4
  have st4 : tn 0 s4.heap := T.keep _ _ _ st3 fun b _ o e => by rw [hs4]; exact pushCells_keeps _ _ _ _ (Heap.get?_push_of_some _ e)
  have cL : ce.locals = s3.heap.objs.size := by rw [hce]; rfl
  -- the iterator's own objects stay out of the way
  have away : ∀ {σ' : L2.St} {H' : Hp} {s' : Shared}, Inv (X.blk s3 H3 scope ce fp) [] σ' H' s' → (∀ b ∈ fp, H' b = none) → ∀ b ∈ fp, FpOk (X.blk s3 H3 scope ce fp) [] H' b := fun {σ' H' s'} I' hn b hb =>
    ⟨hn b hb, (I'.ok.exf b hb).1, I'.ok.exfs b hb, .inl hb, fun x c e => (I'.ok.exf b hb).2 x c e, fun p hp => absurd (show p ∈ ([] : List (Addr × Obj)) ++ [] from hp) (by simp)⟩
  have loop : codeAny (model X.prog X.w) X.A (.compLoop (.SetComp elt [⟨tg, iter, ifs, 0⟩] scope pos) 0 (.ref it) (.ref D) ce) (compPost (model X.prog X.w) X.A X.xe none (EP X pins σ Q) (.ref D) s3.heap.objs.size) s4 := by
    refine PpSet.compLoopS_any (fun n s' => ∃ i H', Inv (X.blk s3 H3 scope ce fp) [] (wipe σ (own.map (·.2))) H' s' ∧ tn i s'.heap ∧ (∀ b ∈ fp, H' b = none) ∧ W i n H') ?_ m0 ⟨0, H3, I4, st4, fun b hb => (f3 b hb).1.1, w0⟩
    rintro n s5 ⟨i, H5, I5, st5, n5, w5⟩
    rcases turn i n H5 w5 with ⟨stop, fin⟩ | ⟨go, Nx, hNx, step⟩
    · refine thnF (T.done (X.blk s3 H3 scope ce fp) rfl rfl rfl hc i [] s5 _ H5 (fun _ _ => False) I5 (away I5 n5) st5 stop) fun r s6 ⟨hr, I6⟩ => ?_
      subst hr
      have I7 : Inv X pins σ H5 s6 := I3.call' (ch := fp) I6.os I6.base I6.hok I6.bare fun b hb => ⟨(f3 b hb).1.2.2.2.1, (f3 b hb).1.2.1, (f3 b hb).1.2.2.2.2.1, (f3 b hb).1.2.2.2.2.2⟩
      have nC : H5 s3.heap.objs.size = none := cL ▸ (I6.free : H5 ce.locals = none)
      obtain ⟨m, hm, _⟩ := I6.loc
      have hm : s6.heap.Ns s3.heap.objs.size m := cL ▸ (hm : s6.heap.Ns ce.locals m)
      have f := I3.fpOk (Nat.le_refl _) nC
      refine ⟨m, hm, fun h'' sb => ?_⟩
      obtain ⟨f0, f1, f2, f3, f4, f5⟩ := f
      exact ⟨.ref D, H5, I7.turned (t' := s6.toks) (fun b o hb e => (sb.2 b hb).trans e) f0 f1 f3 f4 f5, rfl, fin⟩
    · refine thnF (T.item (X.blk s3 H3 scope ce fp) rfl rfl rfl hc i [] s5 _ H5 (fun _ _ => False) I5 (away I5 n5) st5 go) fun r s6 ⟨u, hr, h6⟩ => ?_
      subst hr
      refine thnF h6 fun _ s7 ⟨x, H7, I7, r7, y7, st7, n7⟩ => ?_
      have I7' := I7.pinned (away I7 n7) (T.obj _ _ st7)
      refine thnF (pg.run _ s7 _ H7 x u _ I7' r7 (step x H7 y7)) fun _ s8 ⟨σ8, H8, I8, hw8, q8⟩ => ?_
      refine thnF (pt.run _ s8 σ8 H8 _ I8 q8) fun b s9 ⟨H9, I9, q9⟩ => ?_
      have next : ∀ (s' : Shared) (H' : Hp), Inv (X.blk s3 H3 scope ce fp) ([] ++ pinsAt fp s7.heap) σ8 H' s' → Nx H' → ∃ m, m < n ∧ ∃ i H', Inv (X.blk s3 H3 scope ce fp) [] (wipe σ (own.map (·.2))) H' s' ∧ tn i s'.heap ∧ (∀ b ∈ fp, H' b = none) ∧ W i m H' := fun s' H' I' nx => by
        obtain ⟨m', hm, w'⟩ := hNx H' nx
        have held : ∀ b ∈ fp, ∀ o, s7.heap.get? b = some o → s'.heap.get? b = some o ∧ H' b = none := fun b hb o e =>
          have z := I'.pin (b, o) (List.mem_append_right _ (List.mem_append_right _ (mem_pinsAt hb e)))
          ⟨z.1, z.2.1⟩
        refine ⟨m', hm, i + 1, H', (I'.unpinned (pins := [])).weak (by rw [← hw8, wipe_length]) (fun j v e => ?_), T.keep _ _ _ st7 fun b hb o e => (held b hb o e).1, fun b hb => ?_, w'⟩
        · rw [← hw8] at e
          exact (wipe_some e).1
        · obtain ⟨o, e, _⟩ := T.obj _ _ st7 b hb
          exact (held b hb o e).2
      cases b with
      | false =>
        rw [if_neg Bool.false_ne_true] at q9 ⊢
        exact next _ _ I9 q9
      | true =>
        rw [if_pos rfl] at q9 ⊢
        refine thnF (pe.run _ s9 σ8 H9 _ I9 q9) fun z s10 ⟨y, H10, I10, r10, ha⟩ => ?_
        exact sc_add (X := X.blk s3 H3 scope ce fp) I10 r10 ha fun s11 H11 I11 nx => next _ _ I11 nx
  have whole : codeAny (model X.prog X.w) X.A (.compStart (.SetComp elt [⟨tg, iter, ifs, 0⟩] scope pos) 0 (.ref it) (.ref D) ce) (compPost (model X.prog X.w) X.A X.xe none (EP X pins σ Q) (.ref D) s3.heap.objs.size) s4 := PpSet.codeAny_compStart_set loop (T.self X.A 0 _ _ _ st4 loop)
  subst hs4 hce hcl hs3
  exact whole
end
end L3

/-! sorted({elt for target in iter if ..}), elt an int. -/
namespace L5
open PySem PySem.Spec PyProof.Rows L2 L3
section
variable {K : PySem.W.Frag} {W : Wd} {H : Hp} {S : Sto} {w : World} {tt : TT} {te : TE} {ft : ATT} {fe : ATE} {Q : VK}
def aCompI (C : Sto → Prop) (its : List AItem) (g : AG) (at' : ATT) (ae : ATE) (ρ : AEnv) (S : Sto) (R : List Int → Sto → Prop) : Prop :=
  ∃ Iv : Nat → Sto → List Int → Prop, Iv 0 S [] ∧ ∀ i S acc, Iv i S acc → C S ∧ acc.length < 64 ∧ ((i = its.length ∧ R acc S) ∨ ∃ it, its[i]? = some it ∧ g it ρ S fun ρ2 S2 => at' ρ2 S2 fun b S3 =>
    br b (ae ρ2 S3 fun y S4 => onI y fun c => Iv (i + 1) S4 (acc ++ [c])) (Iv (i + 1) S3 acc))
/-- the ascending list of the ints, each once -/
@[reducible] def aSortSc (w : ATI) (g : AG) (at' : ATT) (ae : ATE) (vs : List Nat) : ATE := fun ρ S P => w ρ S fun C its S1 => aCompI C its g at' ae (hides ρ vs) S1 fun acc S2 =>
  ∀ ys : List Int, ys.Pairwise (· < ·) → (∀ k : Int, k ∈ ys ↔ k ∈ acc) → P (.lst (iL ys)) S2
theorem In.let_go {I : Hp} {ad : List Addr} {fr : PL} {p : Addr} {o : HO} {S : Sto} (h : In K ⟨I, ad, (p, o) :: fr⟩ S H) : In K ⟨I, ad, fr⟩ S H := by
  obtain ⟨os, O, h1, h2, h3⟩ := h.ex
  have O1 : Own I ((p, o) :: (ad.zip os ++ fr)) H := O.perm List.perm_middle.symm
  exact ⟨os, O1.drop, h1, h2, h3⟩
theorem wipe_idem (σ : St) (vs : List Nat) : wipe (wipe σ vs) vs = wipe σ vs := by
  have set_in : ∀ (vs : List Nat) (z : Nat), z ∈ vs → (wipe σ vs).set z none = wipe σ vs := by
    intro vs z
    induction vs with
    | nil => intro h; cases h
    | cons v vs ih =>
      intro h
      unfold wipe
      by_cases hv : z = v
      · subst hv; rw [List.set_set]
      · rcases List.mem_cons.mp h with rfl | h
        · exact absurd rfl hv
        · rw [List.set_comm _ _ (fun e => hv e.symm), ih h]
  have all : ∀ zs : List Nat, (∀ i ∈ zs, i ∈ vs) → wipe (wipe σ vs) zs = wipe σ vs := by
    intro zs
    induction zs with
    | nil => intro _; rfl
    | cons z zs ih =>
      intro hz
      show (wipe (wipe σ vs) zs).set z none = wipe σ vs
      rw [ih fun i hi => hz i (List.mem_cons_of_mem _ hi)]
      exact set_in vs z (hz z List.mem_cons_self)
  exact all vs fun _ h => h
theorem sortSc_core {wi : TI} {fi : ATI} {g : TG} {fg : AG} {ws vs : List Nat} (hi : SI K wi fi) (hg : SG K g fg ws) (hw : ∀ i ∈ ws, i ∈ vs) (ht : STs K tt ft) (he : SE K te fe) {σ : St} {ρ : AEnv} {R : List Int → Sto → Prop} (I : In K W S H) (E : ER K W σ ρ)
    (h : fi ρ S fun C its S1 => aCompI C its fg ft fe (hides ρ vs) S1 R)
    (c : ∀ (W' : Wd) (S' : Sto) (ns acc : List Int) (p : Addr) (H' : Hp), W.Le W' → In K W' S' H' → R acc S' → ns.Pairwise (· < ·) → (∀ k : Int, k ∈ ns ↔ k ∈ acc) → H' p = none → Q (.ref p) (upd H' p (.lst (ns.map V.int)))) : tCB (rSortedSet w) (tCons (tScI w wi g tt te vs) tNil) σ H Q :=
  hi.run I E h fun W1 S1 J C its H1 l1 I1 y ⟨Iv, h0, step⟩ => by
    intro D hD
    refine ⟨fun i m H => ∃ W2 S2 Sf n acc, W1.Le W2 ∧ In K ⟨W2.I, W2.ad, (D, SetO w D Sf n) :: W1.fr⟩ S2 H ∧ (∀ k : Int, k ∈ acc ↔ Sf k = true) ∧ n ≤ acc.length ∧ Iv i S2 acc ∧ i ≤ its.length ∧ m = its.length - i,
      ⟨its.length - 0, W1, S1, fun _ => false, 0, [], .refl _, I1.push hD, fun k => by simp, Nat.zero_le _, h0, Nat.zero_le _, rfl⟩, ?_⟩
    rintro i m H2 ⟨W2, S2, Sf, n, acc, l2, I2, hS, hn, iv, hle, rfl⟩
    obtain ⟨hC, h64, h⟩ := step i S2 acc iv
    have lo : W1.Lo ⟨W2.I, W2.ad, (D, SetO w D Sf n) :: W1.fr⟩ := ⟨l2.ex, l2.ad⟩
    rcases h with ⟨rfl, h⟩ | ⟨it, e, h⟩
    · refine .inl ⟨y.stop _ S2 H2 lo I2 hC, D, Sf, n, rfl, I2.pop.1, by omega, fun ns p hs hm _ hp => ?_⟩
      obtain ⟨I2x, ad2, fr2⟩ := W2
      have hf : fr2 = W1.fr := l2.fr
      subst hf
      exact c _ _ ns acc p H2 (l1.trans l2) I2.let_go h hs (fun k => (hm k).trans (hS k).symm) hp
    · have hlt := (List.getElem?_eq_some_iff.mp e).1
      refine .inr ⟨y.go _ S2 H2 i lo I2 hC hlt, fun H => ∃ W3 S3 Sf3 n3 acc3, W1.Le W3 ∧ In K ⟨W3.I, W3.ad, (D, SetO w D Sf3 n3) :: W1.fr⟩ S3 H ∧ (∀ k : Int, k ∈ acc3 ↔ Sf3 k = true) ∧ n3 ≤ acc3.length ∧ Iv (i + 1) S3 acc3,
        fun H3 ⟨W3, S3, Sf3, n3, acc3, l3, I3, hS3, hn3, iv3⟩ => ⟨its.length - (i + 1), by omega, W3, S3, Sf3, n3, acc3, l3, I3, hS3, hn3, iv3, hlt, rfl⟩, fun x H3 hy => ?_⟩
      obtain ⟨I3, r3⟩ := y.yld _ S2 H2 i it x H3 lo I2 hC e hy
      have E3 : ER K ⟨W2.I, W2.ad, (D, SetO w D Sf n) :: W1.fr⟩ (wipe σ vs) (hides ρ vs) := (E.wipe vs).up (W' := ⟨W2.I, W2.ad, (D, SetO w D Sf n) :: W1.fr⟩) ⟨l1.ex.trans l2.ex, fun k a e => l2.ad k a (l1.ad k a e)⟩
      refine hg.run I3 E3 r3 h fun W4 S4 σ4 ρ4 H4 l4 I4 E4 fx k4 => ⟨?_, ht.run I4 E4 k4 fun W5 S5 b H5 l5 I5 k5 => ?_⟩
      · rw [fx vs hw, wipe_idem]
      · have l45 := l4.trans l5
        cases b with
        | false =>
          rw [if_neg Bool.false_ne_true]
          have k5 : Iv (i + 1) S5 acc := k5.f rfl
          obtain ⟨I5x, ad5, fr5⟩ := W5
          have hf : fr5 = (D, SetO w D Sf n) :: W1.fr := l45.fr
          subst hf
          exact ⟨⟨I5x, ad5, W1.fr⟩, S5, Sf, n, acc, ⟨⟨l2.ex.trans l45.ex, fun k a e => l45.ad k a (l2.ad k a e)⟩, rfl⟩, I5, hS, hn, k5⟩
        | true =>
          rw [if_pos rfl]
          refine he.run I5 (E4.up l5.toLo) (k5.t rfl) fun W6 S6 z pz H6 l6 I6 r6 k6 => ?_
          have l46 := l45.trans l6
          obtain ⟨cz, rfl, _, k6⟩ := r6.onI k6
          obtain ⟨I6x, ad6, fr6⟩ := W6
          have hf : fr6 = (D, SetO w D Sf n) :: W1.fr := l46.fr
          subst hf
          obtain ⟨hD6, up⟩ := I6.pop
          have hb : 66 < scanBound := by decide +kernel
          refine ⟨cz, Sf, n, rfl, hD6, by omega, ⟨I6x, ad6, W1.fr⟩, S6, _, _, acc ++ [cz], ⟨⟨l2.ex.trans l46.ex, fun k a e => l46.ad k a (l2.ad k a e)⟩, rfl⟩, up _, fun k => ?_, ?_, k6⟩
          · rw [List.mem_append, List.mem_singleton, hS k, Bool.or_eq_true, decide_eq_true_eq]
          · rw [List.length_append, List.length_singleton]
            split <;> omega
theorem se_sortSc {wi : TI} {fi : ATI} {g : TG} {fg : AG} {ws vs : List Nat} (hi : SI K wi fi) (hg : SG K g fg ws) (hw : ∀ i ∈ ws, i ∈ vs) (ht : STs K tt ft) (he : SE K te fe) :
    SE K (tCB (rSortedSet w) (tCons (tScI w wi g tt te vs) tNil)) (aSortSc fi fg ft fe vs) := ⟨fun {W S σ ρ H Q P} I E h c =>
  sortSc_core hi hg hw ht he I E h fun W' S' ns acc p H' l I' r hs hm hp => I'.newL (VRs.ints ns) (c.up l) (r ns hs hm) p hp⟩
@[reducible] def aSortScO (w : ATI) (g : AG) (at' : ATT) (ae : ATE) (vs : List Nat) : ATE := fun ρ S P => w ρ S fun C its S1 => aCompI C its g at' ae (hides ρ vs) S1 fun acc S2 =>
  ∀ ys : List Int, ys.Pairwise (· < ·) → (∀ k : Int, k ∈ ys ↔ k ∈ acc) → newO S2 (.lst (iL ys)) P
theorem se_sortScO {wi : TI} {fi : ATI} {g : TG} {fg : AG} {ws vs : List Nat} (hi : SI K wi fi) (hg : SG K g fg ws) (hw : ∀ i ∈ ws, i ∈ vs) (ht : STs K tt ft) (he : SE K te fe) :
    SE K (tCB (rSortedSet w) (tCons (tScI w wi g tt te vs) tNil)) (aSortScO fi fg ft fe vs) := ⟨fun {W S σ ρ H Q P} I E h c =>
  sortSc_core hi hg hw ht he I E h fun W' S' ns acc p H' l I' r hs hm hp => I'.newO (VRs.ints ns) (c.up l) (r ns hs hm) p hp⟩
theorem compI_one {xs : List PV} {ρ : AEnv} {g : AG} {at' : ATT} {ae : ATE} {R : List Int → Sto → Prop} (Iv : Nat → Sto → List Int → Prop) (h0 : Iv 0 S []) (hl : ∀ i S acc, Iv i S acc → acc.length < 64)
    (hs : ∀ i x S acc, xs[i]? = some x → Iv i S acc → g (.one x) ρ S fun ρ2 S2 => at' ρ2 S2 fun b S3 => br b (ae ρ2 S3 fun y S4 => onI y fun c => Iv (i + 1) S4 (acc ++ [c])) (Iv (i + 1) S3 acc))
    (hd : ∀ S acc, Iv xs.length S acc → R acc S) : aCompI cT (xs.map .one) g at' ae ρ S R := by
  refine ⟨fun i S acc => i ≤ xs.length ∧ Iv i S acc, ⟨Nat.zero_le _, h0⟩, fun i S acc ⟨hi, iv⟩ => ⟨trivial, hl i S acc iv, ?_⟩⟩
  rw [List.length_map]
  by_cases h : i = xs.length
  · subst h
    exact .inl ⟨rfl, hd S acc iv⟩
  · have hlt : i < xs.length := by omega
    have e : xs[i]? = some xs[i] := List.getElem?_eq_getElem hlt
    have e2 : (fun (S : Sto) (acc : List Int) => i + 1 ≤ xs.length ∧ Iv (i + 1) S acc) = Iv (i + 1) := by
      funext ρ S
      exact propext ⟨fun z => z.2, fun z => ⟨hlt, z⟩⟩
    refine .inr ⟨.one xs[i], by rw [List.getElem?_map, e]; rfl, ?_⟩
    show g (.one xs[i]) ρ S fun ρ2 S2 => at' ρ2 S2 fun b S3 => br b (ae ρ2 S3 fun y S4 => onI y fun c => (fun S acc => i + 1 ≤ xs.length ∧ Iv (i + 1) S acc) S4 (acc ++ [c])) ((fun S acc => i + 1 ≤ xs.length ∧ Iv (i + 1) S acc) S3 acc)
    rw [e2]
    exact hs i _ S acc e iv
/-! ### b not in () -/
@[reducible] def vNotInNil : A2 := fun x y S P => onB x fun _ => onL (sq y S) fun xs => xs.isEmpty = true ∧ P (.bl true) S
theorem so_notInNil : SO K (rNotInA K) vNotInNil := ⟨fun {W S x y p q H Q P} I r1 r2 h c => by
  obtain ⟨b, rfl, h⟩ := r1.onB h
  obtain ⟨xs, e, he, h⟩ := onL_of h
  rw [List.isEmpty_iff] at he
  subst he
  obtain ⟨a, us, rfl, hq, rs⟩ := r2.sq I e
  cases rs
  exact .inl ⟨a, _, rfl, hq, rfl, rfl, c.at I (.bl _) h⟩⟩
/-! ### sorted(a list of ints) -/
@[reducible] def vSortedLI : AL := fun xs S P => on1 xs fun x => onL (lv x S) fun zs => ∃ ns : List Int, zs = iL ns ∧ ns.length < 64 ∧ ∀ ys : List Int, ys.Perm ns → ys.Pairwise (· ≤ ·) → P (.lst (iL ys)) S
theorem sl_sortedLI : SL K (rSorted K) vSortedLI := ⟨fun {W S xs ps H Q P} I r h c => by
  obtain ⟨v, p, rfl, rfl, r, h⟩ := r.on1 h
  obtain ⟨zs, e, ns, rfl, hl, h⟩ := onL_of h
  obtain ⟨a, us, rfl, hq, r3⟩ := r.lv I e
  rw [r3.ints_of] at hq
  exact ⟨a, ns, rfl, hq, hl, fun ys p hp hs hn => I.newL (VRs.ints ys) c (h ys hp hs) p hn⟩⟩
end
section
variable {K : PySem.W.Frag}
theorem kSortedLI {X : Cx} (hK : X.K = K := by rfl) : CallR X (.builtin "sorted") (rSorted K) := hK ▸ cr_sorted
end
section
variable {w : World}
theorem kSortedSet {X : Cx} (hc : X.calm = true) (hw : X.w = w := by rfl) : CallR X (.builtin "sorted") (rSortedSet w) := hw ▸ cr_sortedSet hc
theorem pe_scIw {X : Cx} {e : Expr} {wi : TI} {g : TG} {tt : TT} {te : TE} {vs : List Nat} (h : PE X e (tScI X.w wi g tt te vs)) (hw : X.w = w := by rfl) : PE X e (tScI w wi g tt te vs) := hw ▸ h
end
end L5

/-! keyword-only parameters with defaults: a call by keywords that leaves some out. -/
namespace L5
open PySem PySem.Spec PyProof.Rows L2 L3
section
variable {P : Program} {w : World} {K : PySem.W.Frag} {mg : Str → Option Value} {base : Heap} {k n : Nat} {f C : Addr} {fd : FuncData} {ps ks : List Str} {g : AL} {m : Str}
/-- self and n positions, then what the keywords and the defaults dp give, in another order -/
def askD (n nk : Nat) (sel : List Nat) (dp : List PV) (g : AL) : AL := fun vs S P => vs.length = 1 + n + nk ∧ g (vs.take (n + 1) ++ pickL sel (vs.drop (n + 1) ++ dp)) S P
theorem cmkD_of (sel : List Nat) {ms : List (Str × V)} {dp : List PV} {D : Addr} (F : FnG P w K mg base CX0 k f fd ps (cSp K g)) (h : Meth K C m f)
    (hm : ∀ q ∈ ms, ∃ u, PySem.W.nsIn K D q.1 = some (some u) ∧ RelV q.2 u) (hr : ∀ (I : Hp) (ad : List Addr), VRs K I ad (ms.map (·.2)) dp)
    (to : ∀ (us mv ws : List Value), us.length = n + 1 → mv.length = ms.length → ws.length = ks.length → KwChain D ((ms.map (·.1)).zip mv) (bindArgs fd ⟨us, ks.zip ws⟩) (ps.zip (us ++ pickL sel (ws ++ mv)))) :
    Cmk P w K mg base CX0 k C m n ks (cSp K (askD n ks.length sel dp g)) := by
  obtain ⟨mv, hl, rk, hks⟩ := kwd_vals hm
  refine ⟨⟨f, fd, ps, fun us ws => us ++ pickL sel (ws ++ mv), fun vs zs => vs ++ pickL sel (zs ++ ms.map (·.2)), _, F, h, ⟨fun s us ws X h1 h2 => BindsTo.of_looks fun M => KwChain.looks X hks (to us mv ws h1 hl h2), fun r1 r2 => r1.append (vals_pick (r2.append rk) sel)⟩, fun x vs zs H Q E ⟨W, S, qs, R, I, r, ⟨hq, hg⟩, c⟩ hz => ?_⟩⟩
  have hl := r.length
  rw [List.length_cons, List.length_append] at hl
  have hn : vs.length = n := by omega
  have e1 : (x :: (vs ++ zs)).take (n + 1) = x :: vs := by rw [List.take_succ_cons, List.take_left' hn]
  have e2 : (x :: (vs ++ zs)).drop (n + 1) = zs := by rw [List.drop_succ_cons, List.drop_left' hn]
  have r1 := r.take (n + 1)
  have r2 := r.drop (n + 1)
  rw [e1] at r1
  rw [e2] at r2
  exact ⟨hn, W, S, _, R, I, r1.append ((r2.append (hr _ _)).pick sel), hg, c⟩
end
end L5

/-! a < b of data that are alike: tuples of ints, pairs of them. -/
namespace L3
open PySem PySem.Spec PyProof.Rows L2
section
variable {X : Cx}
def rLtD (K : PySem.W.Frag) : R2 := fun x y H Q => ∃ d e, Dp K H x d ∧ Dp K H y e ∧ PySem.W.alike d e = true ∧ d ≠ .none ∧ d.depth ≤ 60 ∧ Q (.bl (PySem.W.dataLt d e)) H
theorem op_ltD (hu : X.A.units + 64 < cLine) : OpR X (compareOp .Lt) (rLtD X.K) := by
  intro pins s σ H x y v u Q I rx ry h
  obtain ⟨d, e, hd, he, ha, hn, hdp, q⟩ := h
  obtain ⟨as, r1⟩ := Dp.reads I d x v hd rx
  obtain ⟨bs, r2⟩ := Dp.reads I e y u he ry
  exact PySem.W.rcLt_alike d e X.A s v u as bs r1 r2 ha hn (by omega) _ _ _ _ ⟨.bl _, H, I, rfl, q⟩
theorem kLtD {k : Nat} {K : PySem.W.Frag} (hr : Room k X.A) (hK : X.K = K := by rfl) : OpR X (compareOp .Lt) (rLtD K) := hK ▸ op_ltD hr.units
end
/-! plain -/
def lx : List Int → List Int → Bool
  | _, [] => false
  | [], _ :: _ => true
  | x :: t, y :: u => if x = y then lx t u else decide (x < y)
theorem alike_ints : ∀ t u : List Int, PySem.W.alikeAll (t.map PyData.int) (u.map PyData.int) = true
  | [], _ => by rw [List.map_nil, PySem.W.alikeAll]
  | x :: t, [] => by rw [List.map_nil, List.map_cons, PySem.W.alikeAll]
  | x :: t, y :: u => by rw [List.map_cons, List.map_cons, PySem.W.alikeAll, PySem.W.alike, alike_ints t u]; rfl
theorem eqv_int (x y : Int) : PyData.eqv (.int x) (.int y) = decide (x = y) := by
  rw [PyData.eqv]
  by_cases h : x = y <;> simp [h]
theorem lt_ints : ∀ t u : List Int, PyProof.Rows.lexLt PyProof.Rows.itemOrd (PySem.W.keyToksAll (t.map PyData.int)) (PySem.W.keyToksAll (u.map PyData.int)) = lx t u
  | [], [] => by rw [List.map_nil, PySem.W.keyToksAll]; decide +kernel
  | x :: t, [] => by
    rw [List.map_nil, List.map_cons, PySem.W.toks_all_cons, PySem.W.keyToksAll]
    rw [PySem.W.lex_atom (by simp)]
    show _ = false
    decide +kernel
  | [], y :: u => by
    rw [List.map_nil, List.map_cons, PySem.W.toks_all_cons, PySem.W.keyToksAll]
    rw [PySem.W.lex_atom (by simp)]
    show _ = true
    decide +kernel
  | x :: t, y :: u => by
    rw [List.map_cons, List.map_cons, lx]
    have ha : PySem.W.alike (.int x) (.int y) = true := by rw [PySem.W.alike]
    by_cases h : x = y
    · rw [if_pos h, PySem.W.dataLt_all_yes ha (by rw [eqv_int, decide_eq_true h]), lt_ints t u]
    · rw [if_neg h, PySem.W.dataLt_all_no ha (by rw [eqv_int, decide_eq_false h]), PySem.W.dataLt_int]
/-- (i, t) and (j, u) -/
def prIL (i : Int) (t : List Int) : PyData := .tuple [.int i, .tuple (t.map .int)]
theorem alike_pr (i j : Int) (t u : List Int) : PySem.W.alike (prIL i t) (prIL j u) = true := by
  unfold prIL
  rw [PySem.W.alike, PySem.W.alikeAll, PySem.W.alike, PySem.W.alikeAll, PySem.W.alike, alike_ints, PySem.W.alikeAll]
  rfl
theorem eqv_intsL : ∀ t u : List Int, PyData.eqvAll (t.map PyData.int) (u.map PyData.int) = decide (t = u)
  | [], [] => by rw [List.map_nil, PyData.eqvAll]; rfl
  | [], y :: u => by rw [List.map_nil, List.map_cons, PyData.eqvAll]; rfl
  | x :: t, [] => by rw [List.map_nil, List.map_cons, PyData.eqvAll]; rfl
  | x :: t, y :: u => by
    rw [List.map_cons, List.map_cons, PyData.eqvAll, eqv_int, eqv_intsL t u, ← Bool.decide_and, decide_eq_decide]
    exact List.cons_eq_cons.symm
theorem lt_pr (i j : Int) (t u : List Int) : PySem.W.dataLt (prIL i t) (prIL j u) = if i = j then lx t u else decide (i < j) := by
  unfold prIL
  rw [PySem.W.dataLt_tuple]
  have ha : PySem.W.alike (.int i) (.int j) = true := by rw [PySem.W.alike]
  by_cases h : i = j
  · rw [if_pos h, PySem.W.dataLt_all_yes ha (by rw [eqv_int, decide_eq_true h])]
    have ht : PySem.W.alike (.tuple (t.map .int)) (.tuple (u.map .int)) = true := by rw [PySem.W.alike, alike_ints]
    by_cases e : t = u
    · rw [PySem.W.dataLt_all_yes ht (by rw [PyData.eqv, eqv_intsL, decide_eq_true e]), e]
      have : ∀ u : List Int, lx u u = false := fun u => by
        induction u with
        | nil => rfl
        | cons x u ih => rw [lx, if_pos rfl, ih]
      rw [this, PySem.W.keyToksAll]
      decide +kernel
    · rw [PySem.W.dataLt_all_no ht (by rw [PyData.eqv, eqv_intsL, decide_eq_false e]), PySem.W.dataLt_tuple, lt_ints]
  · rw [if_neg h, PySem.W.dataLt_all_no ha (by rw [eqv_int, decide_eq_false h]), PySem.W.dataLt_int]
end L3

/-! a text, many times; a tuple, up to 4000 times. -/
namespace L3
open PySem PySem.Spec PyProof.Rows L2
/-- a text, k times -/
def repS (a : Str) (k : Int) : Str := ⟨(List.replicate k.toNat a.cps).foldl (· ++ ·) #[]⟩
theorem foldl_arr (a : Array Nat) : ∀ (k : Nat) (acc : Array Nat), ((List.replicate k a).foldl (· ++ ·) acc).toList = acc.toList ++ (List.replicate k a.toList).flatten
  | 0, acc => by simp
  | k + 1, acc => by
    rw [List.replicate_succ, List.foldl_cons, foldl_arr a k, List.replicate_succ, List.flatten_cons, Array.toList_append, List.append_assoc]
theorem repS_list (a : Str) (k : Int) : (repS a k).cps.toList = (List.replicate k.toNat a.cps.toList).flatten := by
  unfold repS
  rw [foldl_arr]
  rfl
theorem repS_len (a : Str) (k : Int) : (repS a k).length = k.toNat * a.length := by
  have h := congrArg List.length (repS_list a k)
  rw [PyProof.Rows.lm_len_rep_flat, Array.length_toList, Array.length_toList] at h
  exact h
section
variable {X : Cx}
def rMulS : R2 := fun x y H Q => ∃ a k, x = .str a ∧ y = .int k ∧ 2 ≤ k ∧ k ≤ 10000 ∧ 0 < a.length ∧ a.length ≤ 100 ∧ Q (.str (repS a k)) H
theorem op_mulS : OpR X (binaryOp .Mult) rMulS := by
  intro pins s σ H x y v u Q I rx ry h
  obtain ⟨a, k, rfl, rfl, h1, h2, h3, h4, q⟩ := h
  obtain ⟨t, rfl⟩ := rx
  obtain ⟨t', rfl⟩ := ry
  have hk : ((k.toNat : Nat) : Int) = k := by omega
  have hm : k.toNat * a.length ≤ 1000000 := Nat.le_trans (Nat.mul_le_mul (by omega : k.toNat ≤ 10000) h4) (by decide)
  have e1 : ¬ k < 1 := by omega
  have e2 : (k == 1 || a.length == 0) = false := by
    rw [Bool.or_eq_false_iff, beq_eq_false_iff_ne, beq_eq_false_iff_ne]
    exact ⟨by omega, by omega⟩
  refine P.mul_str (by rw [decide_eq_false (by omega), decide_eq_false (by omega)]; rfl) (fun _ _ => ?_) (fun _ _ => ?_) ?_
  · have : (2 ^ 63 - 1 : Int) / 10000 ≤ (2 ^ 63 - 1) / k := by
      refine (Int.le_ediv_iff_mul_le (by omega)).mpr ?_
      have h5 : (2 ^ 63 - 1 : Int) / 10000 * k ≤ (2 ^ 63 - 1 : Int) / 10000 * 10000 := Int.mul_le_mul_of_nonneg_left h2 (by decide)
      have h6 : (2 ^ 63 - 1 : Int) / 10000 * 10000 ≤ 2 ^ 63 - 1 := by decide
      omega
    have h7 : (100 : Int) ≤ (2 ^ 63 - 1 : Int) / 10000 := by decide
    omega
  · unfold Builtin.Str.tooLong
    rw [sizeLine_eq]
    exact decide_eq_false (by rw [Nat.mul_comm]; omega)
  · rw [if_neg e1, if_neg (by rw [e2]; exact Bool.false_ne_true)]
    refine ⟨?_, .str (repS a k), H, I.tok _, ⟨_, rfl⟩, q⟩
    show (repS a k).length ≤ sizeLine
    rw [repS_len, sizeLine_eq]
    omega
/-- t * k of a tuple, k from 2 to 4000 -/
def rRepW (K : PySem.W.Frag) : R2 := fun x y H Q => ∃ l k xs, x = .ref l ∧ y = .int k ∧ SqT K H l xs ∧ (xs ≠ [] ∧ 2 ≤ k ∧ k ≤ 4000 ∧ xs.length ≤ 1000) ∧ NewT (List.replicate k.toNat xs).flatten H Q
/-- the bounds that the tuple's own `*` asks for -/
theorem rep_bounds {its : List Value} {k : Int} (h : its ≠ [] ∧ 2 ≤ k ∧ k ≤ 4000 ∧ its.length ≤ 1000) :
    ((its.toArray.size : Nat) : Int) * k ≤ 4000000 ∧ (List.replicate k.toNat its).flatten.length ≤ sizeLine ∧ its.toArray.isEmpty = false := by
  obtain ⟨h0, h1, h2, h3⟩ := h
  refine ⟨?_, ?_, ?_⟩
  · rw [List.size_toArray]
    have : ((its.length : Nat) : Int) * k ≤ 1000 * k := Int.mul_le_mul_of_nonneg_right (by omega) (by omega)
    omega
  · rw [PyProof.Rows.lm_len_rep_flat, sizeLine_eq]
    have := Nat.mul_le_mul (by omega : k.toNat ≤ 4000) h3
    omega
  · cases its with
    | nil => exact absurd rfl h0
    | cons _ _ => rfl
theorem op_repW : OpR X (binaryOp .Mult) (rRepW X.K) := by
  rintro pins s σ H x y v u Q I rx ry ⟨l, k, xs, rfl, rfl, hT, hb, q⟩
  obtain ⟨t, rfl⟩ := ry
  cases rx
  obtain ⟨its, r, ⟨⟨cls, dd, data, sl⟩, ho, hc, n, hd⟩, _⟩ := I.tuple hT
  cases (show cls = .type "tuple" from hc)
  cases (show data = .seq its.toArray n from hd)
  have hlen : its.length = xs.length := r.length.symm
  have hb' : its ≠ [] ∧ 2 ≤ k ∧ k ≤ 4000 ∧ its.length ≤ 1000 := ⟨fun e => hb.1 (List.eq_nil_of_length_eq_zero (by rw [← hlen, e]; rfl)), hb.2.1, hb.2.2.1, by rw [hlen]; exact hb.2.2.2⟩
  obtain ⟨b1, b2, b3⟩ := rep_bounds hb'
  obtain ⟨_, k2, k4, _⟩ := hb'
  have run := tuple_mulW l its.toArray n dd sl k t (by rw [decide_eq_false (by omega), decide_eq_false (by omega)]; rfl) (by rw [b3, Bool.false_or]; exact beq_eq_false_iff_ne.mpr (by omega)) (by rw [b3, decide_eq_false (by omega)]; rfl) (by omega)
    (by unfold Builtin.Tuple.tupleTooMany; rw [sizeLine_eq]; exact decide_eq_false (by omega)) (by rw [size_rep, List.size_toArray]; exact b2)
  refine wpAny_binaryOp_repeat_ref (T := "tuple") (U := "int") (by decide) ⟨_, ho, rfl⟩ (fun s' => typeIs_int s' k t) noFill_tuple_mul F.fills_int_mul F.slot_int_rmul repeat_tuple F.slot_int_index.lookup
    (call_meets F.slot_int_rmul (typeIs_int s k t) F.entry_int_rmul (F.args_int_rmul_2 _ _) (int_rmul_tuple k t l its.toArray n dd sl) ⟨ho, rfl, ⟨_, ho, rfl⟩, call_meets F.slot_tuple_mul ⟨_, ho, rfl⟩ F.entry_tuple_mul (F.args_tuple_mul_2 _ _) run ⟨ho, ?_⟩⟩)
  rw [size_rep]
  exact newT_run I (r.rep k.toNat) (by
    rw [PyProof.Rows.lm_len_rep_flat, sizeLine_eq]
    have := Nat.mul_le_mul (by omega : k.toNat ≤ 4000) hb.2.2.2
    omega) q
def rMulW (K : PySem.W.Frag) : R2 := fun x y H Q => L3.rMulS x y H Q ∨ rRepW K x y H Q
theorem kMulW {K : PySem.W.Frag} (hK : X.K = K := by rfl) : OpR X (binaryOp .Mult) (rMulW K) := hK ▸ op_mulS.or op_repW
end
end L3

/-! (i, t) < (j, u): an int, a tuple of ints. -/
namespace L5
open PySem PySem.Spec PyProof.Rows L2 L3
section
variable {K : PySem.W.Frag} {W : Wd} {S : Sto} {H : Hp} {P : AV} {Q : VK} {I : Hp} {ad : List Addr}
structure ltPr (x y : PV) (P : Bool → Prop) : Prop where
  ex : ∃ (i : Int) (t : List Int) (j : Int) (u : List Int), x = .tup [.int i, .tup (iL t)] ∧ y = .tup [.int j, .tup (iL u)] ∧ P (if i = j then lx t u else decide (i < j))
@[reducible] def vLtP : A2 := fun x y S P => ltPr x y fun b => P (.bl b) S
theorem dat_pr (i : Int) (t : List Int) : dat (.tup [.int i, .tup (iL t)]) = prIL i t := by
  rw [dat, dats, dat, dats, dat, dats_ints, dats]
  rfl
theorem nown_pr (i : Int) (t : List Int) : nown (.tup [.int i, .tup (iL t)]) = true := by
  rw [nown, nowns, nown, nowns, nown, nowns_ints, nowns]
  rfl
theorem depth_ints : ∀ t : List Int, PyData.depthAll (t.map PyData.int) = 0
  | [] => by rw [List.map_nil, PyData.depthAll]
  | x :: t => by rw [List.map_cons, PyData.depthAll, PyData.depth, depth_ints t]; rfl
theorem depth_pr (i : Int) (t : List Int) : (prIL i t).depth ≤ 60 := by
  unfold prIL
  rw [PyData.depth, PyData.depthAll, PyData.depth, PyData.depthAll, PyData.depth, depth_ints, PyData.depthAll]
  decide
theorem so_ltP : SO K (rLtD K) vLtP := ⟨fun {W S x y p q H Q P} I r1 r2 h c => by
  obtain ⟨i, t, j, u, rfl, rfl, hp⟩ := h.ex
  have e1 := r1.dpS I (nown_pr i t)
  have e2 := r2.dpS I (nown_pr j u)
  have f1 : dat (rsv (.tup [.int i, .tup (iL t)]) S) = prIL i t := dat_pr i t
  have f2 : dat (rsv (.tup [.int j, .tup (iL u)]) S) = prIL j u := dat_pr j u
  rw [f1] at e1
  rw [f2] at e2
  refine ⟨_, _, e1, e2, alike_pr i j t u, (fun e => by unfold prIL at e; cases e), depth_pr i t, ?_⟩
  rw [lt_pr]
  exact c.at I (.bl _) hp⟩
/-- "a" * k, t * k with k up to 4000 -/
@[reducible] def vMulW : A2 := fun x y S P => match x with
  | .str a => onI y fun k => (2 ≤ k ∧ k ≤ 10000 ∧ 0 < a.length ∧ a.length ≤ 100) ∧ P (.str (repS a k)) S
  | .tup xs => onI y fun k => (xs ≠ [] ∧ 2 ≤ k ∧ k ≤ 4000 ∧ xs.length ≤ 1000) ∧ P (.tup (List.replicate k.toNat xs).flatten) S
  | _ => False
theorem so_mulW : SO K (rMulW K) vMulW := ⟨fun {W S x y p q H Q P} I r1 r2 h c => by
  cases p with
  | str a =>
    obtain ⟨k, rfl, _, h⟩ := r2.onI h
    cases r1
    exact .inl ⟨a, k, rfl, rfl, h.1.1, h.1.2.1, h.1.2.2.1, h.1.2.2.2, c.at I (.str _) h.2⟩
  | tup xs =>
    obtain ⟨k, rfl, _, h⟩ := r2.onI h
    obtain ⟨a, us, rfl, ha, ra⟩ := r1.tupS I
    obtain ⟨⟨h1, h2, h3, h4⟩, h5⟩ := h
    exact .inr ⟨a, k, us, rfl, rfl, ha, ⟨fun e => h1 (by subst e; cases ra; rfl), h2, h3, by rw [ra.length]; exact h4⟩, I.newT (ra.flat _) c h5⟩
  | _ => exact h.elim⟩
end
end L5

/-! the least list with the fewest differences from lists that were heard: plain. -/
namespace LS
abbrev Kn := List (Option (List Int))
/-- the letter of round i + 1 is the list's own -/
def hit (kn : Kn) (t : List Int) (i : Nat) : Bool := decide (kn[i]? = some (some (t.take (i + 1))))
/-- the differences in the first n rounds -/
def dfc (kn : Kn) (t : List Int) : Nat → Nat
  | 0 => 0
  | n + 1 => dfc kn t n + if hit kn t n = true then 0 else 1
theorem dfc_mono (kn : Kn) (t : List Int) : ∀ {n m : Nat}, n ≤ m → dfc kn t n ≤ dfc kn t m ∧ dfc kn t m ≤ dfc kn t n + (m - n)
  | n, 0, h => by
    obtain rfl : n = 0 := by omega
    exact ⟨Nat.le_refl _, by omega⟩
  | n, m + 1, h => by
    by_cases e : n = m + 1
    · subst e; exact ⟨Nat.le_refl _, by omega⟩
    · have ih := dfc_mono kn t (n := n) (m := m) (by omega)
      rw [dfc]
      split <;> omega
theorem hit_congr (kn : Kn) {t u : List Int} {i : Nat} (h : t.take (i + 1) = u.take (i + 1)) : hit kn t i = hit kn u i := by unfold hit; rw [h]
theorem dfc_congr (kn : Kn) {t u : List Int} : ∀ {n : Nat}, t.take n = u.take n → dfc kn t n = dfc kn u n
  | 0, _ => rfl
  | n + 1, h => by
    have h2 : t.take n = u.take n := by
      have := congrArg (List.take n) h
      rwa [List.take_take, List.take_take, Nat.min_eq_left (by omega)] at this
    rw [dfc, dfc, dfc_congr kn h2, hit_congr kn h]
theorem dfc_miss (kn : Kn) (t : List Int) {n : Nat} : ∀ {m : Nat}, n ≤ m → (∀ i, n ≤ i → i < m → hit kn t i = false) → dfc kn t m = dfc kn t n + (m - n)
  | 0, h, _ => by
    obtain rfl : n = 0 := by omega
    omega
  | m + 1, h, hm => by
    by_cases e : n = m + 1
    · subst e; omega
    · rw [dfc, dfc_miss kn t (by omega) fun i h1 h2 => hm i h1 (by omega), hm m (by omega) (by omega), if_neg Bool.false_ne_true]
      omega
def df (kn : Kn) (t : List Int) : Nat := dfc kn t kn.length
inductive Lt : List Int → List Int → Prop where
  | head {x y : Int} {r q : List Int} : x < y → Lt (x :: r) (y :: q)
  | tail {x : Int} {r q : List Int} : Lt r q → Lt (x :: r) (x :: q)
theorem Lt.trans : ∀ {a b c : List Int}, Lt a b → Lt b c → Lt a c
  | _, _, _, .head h, .head k => .head (Int.lt_trans h k)
  | _, _, _, .head h, .tail k => .head h
  | _, _, _, .tail h, .head k => .head k
  | _, _, _, .tail h, .tail k => .tail (Lt.trans h k)
theorem Lt.irrefl : ∀ {a : List Int}, ¬ Lt a a
  | [], h => nomatch h
  | x :: r, h => by
    cases h with
    | head h => omega
    | tail h => exact Lt.irrefl h
theorem Lt.pre : ∀ (s : List Int) {a b : List Int}, Lt a b → Lt (s ++ a) (s ++ b)
  | [], _, _, h => h
  | _ :: s, _, _, h => .tail (Lt.pre s h)
theorem Lt.ext : ∀ {a b : List Int}, Lt a b → a.length = b.length → ∀ p q, Lt (a ++ p) (b ++ q)
  | _, _, .head h, _, p, q => .head h
  | _, _, .tail h, e, p, q => .tail (Lt.ext h (by simpa using e) p q)
/-- the lists of all symbols that begin with s -/
structure Ext (w : Int) (L : Nat) (s t : List Int) : Prop where
  len : t.length = L
  pre : t.take s.length = s
  ok : ∀ x ∈ t, 0 ≤ x ∧ x < w
abbrev Bst := Option (Nat × List Int)
structure Res (kn : Kn) (most : Int) (T : List Int → Prop) (b b' : Bst) : Prop where
  sound : b' = b ∨ ∃ t, T t ∧ (df kn t : Int) ≤ most ∧ b' = some (df kn t, t)
  keep : ∀ c u, b = some (c, u) → b' = b ∨ ∃ c' u', b' = some (c', u') ∧ c' < c
  best : ∀ t, T t → (df kn t : Int) ≤ most → ∃ c u, b' = some (c, u) ∧ (c < df kn t ∨ (c = df kn t ∧ (b' = b ∨ u = t ∨ Lt u t)))
variable {kn : Kn} {most w : Int} {b b1 b2 : Bst} {s : List Int}
theorem Res.refl : Res kn most (fun _ => False) b b := ⟨.inl rfl, fun _ _ _ => .inl rfl, fun _ h => h.elim⟩
theorem Res.union {T T' : List Int → Prop} (h : Res kn most T b b1) (k : Res kn most T' b1 b2) (hlt : ∀ t t', T t → T' t' → Lt t t') : Res kn most (fun t => T t ∨ T' t) b b2 where
  sound := by
    rcases k.sound with rfl | ⟨t, h1, h2, h3⟩
    · rcases h.sound with e | ⟨t, h1, h2, h3⟩
      · exact .inl e
      · exact .inr ⟨t, .inl h1, h2, h3⟩
    · exact .inr ⟨t, .inr h1, h2, h3⟩
  keep := fun c u e => by
    rcases h.keep c u e with e1 | ⟨c1, u1, e1, l1⟩
    · rcases k.keep c u (e1.trans e) with e2 | z
      · exact .inl (e2.trans e1)
      · exact .inr z
    · rcases k.keep c1 u1 e1 with e2 | ⟨c2, u2, e2, l2⟩
      · exact .inr ⟨c1, u1, e2.trans e1, l1⟩
      · exact .inr ⟨c2, u2, e2, Nat.lt_trans l2 l1⟩
  best := fun t ht hm => by
    rcases ht with ht | ht
    · obtain ⟨c1, u1, e1, z⟩ := h.best t ht hm
      rcases k.keep c1 u1 e1 with e2 | ⟨c2, u2, e2, l2⟩
      · refine ⟨c1, u1, e2.trans e1, ?_⟩
        rcases z with z | ⟨z1, z2⟩
        · exact .inl z
        · exact .inr ⟨z1, z2.elim (fun q => .inl (e2.trans q)) .inr⟩
      · exact ⟨c2, u2, e2, .inl (by rcases z with z | z <;> omega)⟩
    · obtain ⟨c2, u2, e2, z⟩ := k.best t ht hm
      refine ⟨c2, u2, e2, ?_⟩
      rcases z with z | ⟨z1, z2⟩
      · exact .inl z
      · refine .inr ⟨z1, ?_⟩
        rcases z2 with q | q
        · rcases h.sound with e | ⟨t1, h1, _, h3⟩
          · exact .inl (q.trans e)
          · have := h3.symm.trans (q.symm.trans e2)
            cases this
            exact .inr (.inr (hlt _ _ h1 ht))
        · exact .inr q
theorem Res.congr {T T' : List Int → Prop} (h : Res kn most T b b1) (e : ∀ t, T t ↔ T' t) : Res kn most T' b b1 := by
  rw [show T' = T from funext fun t => propext (e t).symm]
  exact h
theorem df_ge {L : Nat} {t : List Int} (hL : kn.length = L) (h : Ext w L s t) (hs : s.length ≤ L) : dfc kn s s.length ≤ df kn t := by
  have : dfc kn s s.length = dfc kn t s.length := dfc_congr kn (by rw [h.pre, List.take_length])
  rw [this]
  exact (dfc_mono kn t (by omega)).1
/-- too many already -/
theorem Res.over {L : Nat} (hL : kn.length = L) (hs : s.length ≤ L) (h : most < (dfc kn s s.length : Int)) : Res kn most (Ext w L s) b b := ⟨.inl rfl, fun _ _ _ => .inl rfl, fun t ht hm => by
  have := df_ge hL ht hs
  omega⟩
theorem Res.worse {L c : Nat} {u : List Int} (hL : kn.length = L) (hs : s.length ≤ L) (hb : b = some (c, u)) (h : c ≤ dfc kn s s.length) : Res kn most (Ext w L s) b b := ⟨.inl rfl, fun _ _ _ => .inl rfl, fun t ht hm => by
  have := df_ge hL ht hs
  refine ⟨c, u, hb, ?_⟩
  by_cases e : c < df kn t
  · exact .inl e
  · exact .inr ⟨by omega, .inl rfl⟩⟩
theorem Res.leaf {L : Nat} (hL : kn.length = L) (hs : s.length = L) (ho : ∀ x ∈ s, 0 ≤ x ∧ x < w) (h : (dfc kn s s.length : Int) ≤ most) (hb : ∀ c u, b = some (c, u) → dfc kn s s.length < c) : Res kn most (Ext w L s) b (some (dfc kn s s.length, s)) := by
  have e : df kn s = dfc kn s s.length := by unfold df; rw [hL, hs]
  refine ⟨.inr ⟨s, ⟨hs, List.take_length, ho⟩, by rw [e]; exact h, by rw [e]⟩, fun c u z => .inr ⟨_, _, rfl, hb c u z⟩, fun t ht _ => ⟨_, _, rfl, ?_⟩⟩
  have : t = s := by
    have := ht.pre
    rwa [hs, ← ht.len, List.take_length] at this
  subst this
  exact .inr ⟨e.symm, .inr (.inl rfl)⟩
/-- the next symbols that are looked at -/
structure Cand (kn : Kn) (w : Int) (s : List Int) (cs : List Int) : Prop where
  asc : cs.Pairwise (· < ·)
  ok : ∀ x ∈ cs, 0 ≤ x ∧ x < w
  rest : ∀ x, 0 ≤ x → x < w → x ∉ cs → (∃ y ∈ cs, y < x) ∧ ∀ i u, s.length ≤ i → kn[i]? = some (some u) → u.take s.length = s → u[s.length]? ≠ some x
def Upto (w : Int) (L : Nat) (s : List Int) (cs : List Int) (k : Nat) : List Int → Prop := fun t => ∃ x ∈ cs.take k, Ext w L (s ++ [x]) t
theorem Upto.step {L k : Nat} {cs : List Int} {x : Int} (hx : cs[k]? = some x) (hc : cs.Pairwise (· < ·)) (h : Res kn most (Upto w L s cs k) b b1) (h2 : Res kn most (Ext w L (s ++ [x])) b1 b2) : Res kn most (Upto w L s cs (k + 1)) b b2 := by
  refine (h.union h2 ?_).congr fun t => ?_
  · rintro t t' ⟨y, hy, ht⟩ ht'
    have hyx : y < x := by
      obtain ⟨j, hj⟩ := List.getElem?_of_mem hy
      have hjk : j < k := by have := (List.getElem?_eq_some_iff.mp hj).1; rw [List.length_take] at this; omega
      rw [List.getElem?_take_of_lt hjk] at hj
      obtain ⟨h1, rfl⟩ := List.getElem?_eq_some_iff.mp hj
      obtain ⟨h3, rfl⟩ := List.getElem?_eq_some_iff.mp hx
      exact List.pairwise_iff_getElem.mp hc j k h1 h3 hjk
    have e1 : t = (s ++ [y]) ++ t.drop (s ++ [y]).length := by
      have := (List.take_append_drop (s ++ [y]).length t).symm
      rwa [ht.pre] at this
    have e2 : t' = (s ++ [x]) ++ t'.drop (s ++ [x]).length := by
      have := (List.take_append_drop (s ++ [x]).length t').symm
      rwa [ht'.pre] at this
    rw [e1, e2]
    exact Lt.ext (Lt.pre s (.head hyx)) (by simp) _ _
  · rw [Upto, Upto, List.take_succ, hx]
    constructor
    · rintro (⟨y, hy, ht⟩ | ht)
      · exact ⟨y, List.mem_append_left _ hy, ht⟩
      · exact ⟨x, List.mem_append_right _ (by simp), ht⟩
    · rintro ⟨y, hy, ht⟩
      rcases List.mem_append.mp hy with hy | hy
      · exact .inl ⟨y, hy, ht⟩
      · simp at hy; subst hy; exact .inr ht
theorem Upto.start {L : Nat} {cs : List Int} : Res kn most (Upto w L s cs 0) b b := Res.refl.congr fun t => ⟨fun h => h.elim, fun ⟨x, hx, _⟩ => by simp at hx⟩
theorem Upto.fin {L : Nat} {cs : List Int} (hL : kn.length = L) (hs : s.length < L) (hc : Cand kn w s cs) (ho : ∀ x ∈ s, 0 ≤ x ∧ x < w) (h : Res kn most (Upto w L s cs cs.length) b b1) : Res kn most (Ext w L s) b b1 := by
  have sub : ∀ t, Upto w L s cs cs.length t → Ext w L s t := fun t ⟨x, _, ht⟩ => ⟨ht.len, by
    have := congrArg (List.take s.length) ht.pre
    rwa [List.take_take, List.length_append, List.length_singleton, Nat.min_eq_left (by omega), List.take_left] at this, ht.ok⟩
  refine ⟨h.sound.imp id fun ⟨t, h1, h2, h3⟩ => ⟨t, sub t h1, h2, h3⟩, h.keep, fun t ht hm => ?_⟩
  obtain ⟨x, hx⟩ : ∃ x, t[s.length]? = some x := ⟨_, List.getElem?_eq_getElem (by rw [ht.len]; exact hs)⟩
  have hxo := ht.ok x (List.mem_of_getElem? hx)
  have et : t.take (s.length + 1) = s ++ [x] := by rw [List.take_succ, ht.pre, hx]; rfl
  by_cases hxc : x ∈ cs
  · exact h.best t ⟨x, by rw [List.take_length]; exact hxc, ht.len, by rw [List.length_append, List.length_singleton]; exact et, ht.ok⟩ hm
  · obtain ⟨⟨y, hy, hyx⟩, hmiss⟩ := hc.rest x hxo.1 hxo.2 hxc
    have hyo := hc.ok y hy
    -- the list that goes on with y and zeros
    obtain ⟨t0, ht0⟩ : ∃ t0, t0 = (s ++ [y]) ++ List.replicate (L - (s.length + 1)) (0 : Int) := ⟨_, rfl⟩
    have h0 : Ext w L (s ++ [y]) t0 := by
      subst ht0
      refine ⟨by simp; omega, List.take_left, fun z hz => ?_⟩
      rcases List.mem_append.mp hz with hz | hz
      · rcases List.mem_append.mp hz with hz | hz
        · exact ho z hz
        · rw [List.mem_singleton.mp hz]; exact hyo
      · rw [(List.mem_replicate.mp hz).2]; omega
    have hp : dfc kn t0 s.length = dfc kn t s.length := dfc_congr kn (by rw [(sub t0 ⟨y, by rw [List.take_length]; exact hy, h0⟩).pre, ht.pre])
    have d1 : df kn t = dfc kn t s.length + (L - s.length) := by
      unfold df
      rw [hL]
      refine dfc_miss kn t (by omega) fun i h1 h2 => ?_
      unfold hit
      refine decide_eq_false fun e => hmiss i _ h1 e ?_ ?_
      · rw [List.take_take, Nat.min_eq_left (by omega)]; exact ht.pre
      · rw [List.getElem?_take_of_lt (by omega)]; exact hx
    have d0 : df kn t0 ≤ dfc kn t s.length + (L - s.length) := by
      unfold df
      rw [hL, ← hp]
      exact (dfc_mono kn t0 (by omega)).2
    have hlt : Lt t0 t := by
      have e2 : t = (s ++ [x]) ++ t.drop (s.length + 1) := by rw [← et]; simp
      rw [ht0, e2]
      exact Lt.ext (Lt.pre s (.head hyx)) (by simp) _ _
    obtain ⟨c, u, e, z⟩ := h.best t0 ⟨y, by rw [List.take_length]; exact hy, h0⟩ (by omega)
    refine ⟨c, u, e, ?_⟩
    rcases z with z | ⟨z1, z2⟩
    · exact .inl (by omega)
    · by_cases q : df kn t0 < df kn t
      · exact .inl (by omega)
      · refine .inr ⟨by omega, ?_⟩
        rcases z2 with z2 | rfl | z2
        · exact .inl z2
        · exact .inr (.inr hlt)
        · exact .inr (.inr (z2.trans hlt))
/-! ### all lists -/
def lsts (w : Nat) : Nat → List (List Int)
  | 0 => [[]]
  | n + 1 => (lsts w n).flatMap fun s => (List.range w).map fun x : Nat => s ++ [(x : Int)]
theorem lsts_mem (w : Nat) : ∀ (n : Nat) (t : List Int), t ∈ lsts w n ↔ t.length = n ∧ ∀ x ∈ t, 0 ≤ x ∧ x < (w : Int)
  | 0, t => by
    rw [lsts, List.mem_singleton]
    exact ⟨fun h => by subst h; exact ⟨rfl, fun _ h => absurd h List.not_mem_nil⟩, fun h => List.length_eq_zero_iff.mp h.1⟩
  | n + 1, t => by
    rw [lsts, List.mem_flatMap]
    constructor
    · rintro ⟨s, hs, ht⟩
      obtain ⟨x, hx, rfl⟩ := List.mem_map.mp ht
      have hx := List.mem_range.mp hx
      obtain ⟨h1, h2⟩ := (lsts_mem w n s).mp hs
      refine ⟨by rw [List.length_append, h1]; rfl, fun z hz => ?_⟩
      rcases List.mem_append.mp hz with hz | hz
      · exact h2 z hz
      · rw [List.mem_singleton.mp hz]; omega
    · rintro ⟨h1, h2⟩
      rcases List.eq_nil_or_concat t with rfl | ⟨s, x, rfl⟩
      · cases h1
      · rw [List.concat_eq_append] at h1 h2 ⊢
        rw [List.length_append, List.length_singleton] at h1
        have hx := h2 x (List.mem_append_right _ (by simp))
        refine ⟨s, (lsts_mem w n s).mpr ⟨by omega, fun z hz => h2 z (List.mem_append_left _ hz)⟩, List.mem_map.mpr ⟨x.toNat, List.mem_range.mpr (by omega), ?_⟩⟩
        rw [show (x.toNat : Int) = x by omega]
theorem lsts_asc (w : Nat) : ∀ n : Nat, (lsts w n).Pairwise Lt
  | 0 => List.pairwise_singleton ..
  | n + 1 => by
    rw [lsts, List.pairwise_flatMap]
    refine ⟨fun s _ => ?_, ?_⟩
    · rw [List.pairwise_map]
      exact List.pairwise_lt_range.imp fun h => Lt.pre s (.head (by omega))
    · refine List.Pairwise.imp_of_mem (fun {a b} ha hb h => ?_) (lsts_asc w n)
      intro x hx y hy
      obtain ⟨i, _, rfl⟩ := List.mem_map.mp hx
      obtain ⟨j, _, rfl⟩ := List.mem_map.mp hy
      exact Lt.ext h (by rw [((lsts_mem w n a).mp ha).1, ((lsts_mem w n b).mp hb).1]) _ _
/-- the first of those with the fewest differences, among the first k -/
def Fst (kn : Kn) (Ls : List (List Int)) (k : Nat) (t : List Int) : Prop := t ∈ Ls.take k ∧ ∀ u ∈ Ls.take k, df kn t < df kn u ∨ (df kn t = df kn u ∧ (u = t ∨ Lt t u))
theorem Fst.first {Ls : List (List Int)} {t : List Int} (h : Ls[0]? = some t) : Fst kn Ls 1 t := by
  have e : Ls.take 1 = [t] := by rw [show (1 : Nat) = 0 + 1 from rfl, List.take_succ, h]; rfl
  unfold Fst
  rw [e]
  exact ⟨by simp, fun u hu => .inr ⟨by rw [List.mem_singleton.mp hu], .inl (List.mem_singleton.mp hu)⟩⟩
theorem Fst.new {Ls : List (List Int)} {k : Nat} {t u : List Int} (h : Fst kn Ls k t) (hu : Ls[k]? = some u) (hl : df kn u < df kn t) : Fst kn Ls (k + 1) u := by
  unfold Fst
  rw [List.take_succ, hu]
  refine ⟨List.mem_append_right _ (by simp), fun v hv => ?_⟩
  rcases List.mem_append.mp hv with hv | hv
  · rcases h.2 v hv with z | z
    · exact .inl (by omega)
    · exact .inl (by omega)
  · simp at hv
    subst hv
    exact .inr ⟨rfl, .inl rfl⟩
theorem Fst.old {Ls : List (List Int)} {k : Nat} {t u : List Int} (h : Fst kn Ls k t) (hu : Ls[k]? = some u) (hp : Ls.Pairwise Lt) (hl : ¬ df kn u < df kn t) : Fst kn Ls (k + 1) t := by
  unfold Fst
  rw [List.take_succ, hu]
  refine ⟨List.mem_append_left _ h.1, fun v hv => ?_⟩
  rcases List.mem_append.mp hv with hv | hv
  · exact h.2 v hv
  · simp at hv
    subst hv
    have hlt : Lt t v := by
      obtain ⟨j, hj⟩ := List.getElem?_of_mem h.1
      have hjk : j < k := by have := (List.getElem?_eq_some_iff.mp hj).1; rw [List.length_take] at this; omega
      rw [List.getElem?_take_of_lt hjk] at hj
      obtain ⟨h1, rfl⟩ := List.getElem?_eq_some_iff.mp hj
      obtain ⟨h2, rfl⟩ := List.getElem?_eq_some_iff.mp hu
      exact List.pairwise_iff_getElem.mp hp j k h1 h2 hjk
    by_cases e : df kn t < df kn v
    · exact .inl e
    · exact .inr ⟨by omega, .inr hlt⟩
/-- what the search finds is what is due -/
theorem Res.due {w : Nat} {n : Nat} {t : List Int} {b' : Bst} (hL : kn.length = n) (h : Res kn most (Ext (w : Int) n []) none b') (hf : Fst kn (lsts w n) (lsts w n).length t) : b'.map Prod.snd = if (df kn t : Int) ≤ most then some t else none := by
  unfold Fst at hf
  rw [List.take_length] at hf
  have ex : ∀ u, u ∈ lsts w n → Ext (w : Int) n [] u := fun u hu => ⟨((lsts_mem w n u).mp hu).1, rfl, ((lsts_mem w n u).mp hu).2⟩
  have xe : ∀ u, Ext (w : Int) n [] u → u ∈ lsts w n := fun u hu => (lsts_mem w n u).mpr ⟨hu.len, hu.ok⟩
  by_cases hm : (df kn t : Int) ≤ most
  · rw [if_pos hm]
    obtain ⟨c, u, e, z⟩ := h.best t (ex t hf.1) hm
    rcases h.sound with q | ⟨t1, h1, h2, h3⟩
    · rw [q] at e; cases e
    · rw [h3] at e
      cases e
      have := hf.2 u (xe u h1)
      rw [h3]
      show some u = some t
      congr 1
      rcases z with z | ⟨z1, z2⟩
      · rcases this with k | k <;> omega
      · rcases this with k | ⟨_, k⟩
        · omega
        · rcases k with k | k
          · exact k
          · rcases z2 with z2 | z2 | z2
            · rw [h3] at z2; cases z2
            · exact z2
            · exact absurd (k.trans z2) Lt.irrefl
  · rw [if_neg hm]
    rcases h.sound with q | ⟨t1, h1, h2, h3⟩
    · rw [q]; rfl
    · have := hf.2 t1 (xe t1 h1)
      omega
end LS

/-! the texts of tuples of small ints are unlike all others. -/
namespace LT
open PySem PySem.Spec PyProof.Rows L2 L3 L5
def cl (s : Str) : List Nat := s.cps.toList
theorem cl_app (a b : Str) : cl (a ++ b) = cl a ++ cl b := by
  show (a.cps ++ b.cps).toList = _
  rw [Array.toList_append]
  rfl
def tx (x : Int) : List Nat := if x < 0 then [45, 48 + (-x).toNat] else [48 + x.toNat]
theorem cl_int {x : Int} (h : -9 ≤ x ∧ x ≤ 9) : cl (Str.ofString (toString x)) = tx x := by
  have : x = -9 ∨ x = -8 ∨ x = -7 ∨ x = -6 ∨ x = -5 ∨ x = -4 ∨ x = -3 ∨ x = -2 ∨ x = -1 ∨ x = 0 ∨ x = 1 ∨ x = 2 ∨ x = 3 ∨ x = 4 ∨ x = 5 ∨ x = 6 ∨ x = 7 ∨ x = 8 ∨ x = 9 := by omega
  rcases this with rfl | rfl | rfl | rfl | rfl | rfl | rfl | rfl | rfl | rfl | rfl | rfl | rfl | rfl | rfl | rfl | rfl | rfl | rfl <;> decide +kernel
def rest : List Int → List Nat
  | [] => []
  | x :: r => 44 :: 32 :: (tx x ++ rest r)
def bd : List Int → List Nat
  | [] => []
  | x :: r => tx x ++ rest r
def en (t : List Int) : List Nat := if t.length = 1 then [44, 41] else [41]
def enc (t : List Int) : List Nat := 40 :: (bd t ++ en t)
theorem cl_join : ∀ {t : List Int}, (∀ x ∈ t, -9 ≤ x ∧ x ≤ 9) → cl (Str.join ", " (t.map fun n => Str.ofString (toString n))) = bd t
  | [], _ => by decide +kernel
  | [x], h => by
    show cl (Str.ofString (toString x)) = _
    rw [cl_int (h x List.mem_cons_self), bd, rest, List.append_nil]
  | x :: y :: r, h => by
    show cl (Str.ofString (toString x) ++ ", " ++ Str.join ", " ((y :: r).map fun n => Str.ofString (toString n))) = _
    rw [cl_app, cl_app, cl_int (h x List.mem_cons_self), cl_join fun z hz => h z (List.mem_cons_of_mem _ hz), show cl ", " = [44, 32] by decide +kernel, List.append_assoc]
    rfl
theorem cl_tup {t : List Int} (h : ∀ x ∈ t, -9 ≤ x ∧ x ≤ 9) : cl (PyData.shown (dat (.tup (iL t)))) = enc t := by
  rw [dat, dats_ints, PyData.shown, SP.shownAll_ints, tupleText, cl_app, cl_app, cl_join h, List.length_map, show cl ("(" : Str) = [40] by decide +kernel]
  unfold enc en
  by_cases e : t.length = 1
  · rw [if_pos e, e]
    show [40] ++ bd t ++ cl (Str.ofString ",)") = _
    rw [show cl (Str.ofString ",)") = [44, 41] by decide +kernel]
    rfl
  · rw [if_neg e, show (t.length == 1) = false by rw [beq_eq_false_iff_ne]; exact e]
    show [40] ++ bd t ++ cl (Str.ofString ")") = _
    rw [show cl (Str.ofString ")") = [41] by decide +kernel]
    rfl
theorem tx_inj {x y : Int} {p q : List Nat} (hy : 0 ≤ y ∧ y ≤ 9) (h : tx x ++ p = tx y ++ q) : x = y ∧ p = q := by
  unfold tx at h
  rw [if_neg (show ¬ y < 0 by omega)] at h
  by_cases hx : x < 0
  · rw [if_pos hx] at h
    have := (List.cons.inj h).1
    omega
  · rw [if_neg hx] at h
    obtain ⟨h1, h2⟩ := List.cons.inj h
    exact ⟨by omega, h2⟩
theorem rest_inj : ∀ {t u : List Int} {p q : List Nat}, (p = [41] ∨ p = [44, 41]) → (q = [41] ∨ q = [44, 41]) → (∀ x ∈ u, 0 ≤ x ∧ x ≤ 9) → rest t ++ p = rest u ++ q → t = u
  | [], [], _, _, _, _, _, _ => rfl
  | [], y :: u, p, q, hp, _, _, h => by
    rw [rest, rest] at h
    rcases hp with rfl | rfl <;> simp at h
  | x :: t, [], p, q, _, hq, _, h => by
    rw [rest, rest] at h
    rcases hq with rfl | rfl <;> simp at h
  | x :: t, y :: u, p, q, hp, hq, hu, h => by
    rw [rest, rest] at h
    have h : (tx x ++ rest t) ++ p = (tx y ++ rest u) ++ q := (List.cons.inj (List.cons.inj h).2).2
    rw [List.append_assoc, List.append_assoc] at h
    obtain ⟨rfl, h2⟩ := tx_inj (hu y List.mem_cons_self) h
    rw [rest_inj hp hq (fun z hz => hu z (List.mem_cons_of_mem _ hz)) h2]
theorem en_or (t : List Int) : en t = [41] ∨ en t = [44, 41] := by unfold en; split <;> simp
theorem tx_head (x : Int) : ∃ c r, tx x = c :: r ∧ (c = 45 ∨ 48 ≤ c) := by
  unfold tx
  by_cases h : x < 0
  · rw [if_pos h]; exact ⟨_, _, rfl, .inl rfl⟩
  · rw [if_neg h]; exact ⟨_, _, rfl, .inr (by omega)⟩
theorem enc_inj {t u : List Int} (hu : ∀ x ∈ u, 0 ≤ x ∧ x ≤ 9) (h : enc t = enc u) : t = u := by
  unfold enc at h
  have h := (List.cons.inj h).2
  cases t with
  | nil => cases u with
    | nil => rfl
    | cons y u =>
      obtain ⟨c, r, e, hc⟩ := tx_head y
      rw [bd, bd, e] at h
      have : 41 = c := (List.cons.inj h).1
      omega
  | cons x t => cases u with
    | nil =>
      obtain ⟨c, r, e, hc⟩ := tx_head x
      rw [bd, bd, e] at h
      have : c = 41 := (List.cons.inj h).1
      omega
    | cons y u =>
      rw [bd, bd, List.append_assoc, List.append_assoc] at h
      obtain ⟨rfl, h⟩ := tx_inj (hu y List.mem_cons_self) h
      rw [rest_inj (en_or _) (en_or _) (fun z hz => hu z (List.mem_cons_of_mem _ hz)) h]
/-- how the text of a tuple of digits begins -/
theorem enc_begin {u : List Int} (hu : ∀ x ∈ u, 0 ≤ x ∧ x ≤ 9) : ∃ c r, enc u = 40 :: c :: r ∧ (c = 41 ∨ (48 ≤ c ∧ c ≤ 57)) := by
  cases u with
  | nil => exact ⟨41, [], rfl, .inl rfl⟩
  | cons y u =>
    have := hu y List.mem_cons_self
    unfold enc
    rw [bd]
    unfold tx
    rw [if_neg (show ¬ y < 0 by omega)]
    exact ⟨_, _, rfl, .inr (by omega)⟩
/-- a text that begins otherwise -/
theorem other {s : Str} {u : List Int} (hu : ∀ x ∈ u, 0 ≤ x ∧ x ≤ 9) (h : (∃ c r, cl s = c :: r ∧ c ≠ 40) ∨ (∃ c r, cl s = 40 :: c :: r ∧ c ≠ 41 ∧ (c < 48 ∨ 57 < c))) : s ≠ PyData.shown (dat (.tup (iL u))) := fun e => by
  have e2 := congrArg cl e
  rw [cl_tup fun x hx => ⟨by have := hu x hx; omega, by have := hu x hx; omega⟩] at e2
  obtain ⟨c, r, e3, hc⟩ := enc_begin hu
  rw [e3] at e2
  rcases h with ⟨c', r', h1, h2⟩ | ⟨c', r', h1, h2, h3⟩
  · rw [h1] at e2
    exact h2 (List.cons.inj e2).1
  · rw [h1] at e2
    have := (List.cons.inj (List.cons.inj e2).2).1
    omega
theorem cl_head_app {a b : Str} {c : Nat} {r : List Nat} (h : cl a = c :: r) : ∃ r', cl (a ++ b) = c :: r' := ⟨r ++ cl b, by rw [cl_app, h]; rfl⟩
theorem textFrom_head : ∀ (ts : List Str) (k : Nat) (acc : Str) {c : Nat} {r : List Nat}, cl acc = c :: r → ∃ r', cl (textFrom k acc ts) = c :: r'
  | [], k, acc, c, r, h => ⟨r, h⟩
  | t :: ts, k, acc, c, r, h => by
    unfold textFrom
    obtain ⟨r1, h1⟩ := cl_head_app (b := Str.ofString (if k > 0 then ", " else "")) h
    obtain ⟨r2, h2⟩ := cl_head_app (b := t) h1
    exact textFrom_head ts _ _ h2
theorem list_head (xs : List PyData) : ∃ c r, cl (PyData.shown (.list xs)) = c :: r ∧ c ≠ 40 := by
  rw [PyData.shown]
  unfold listText
  obtain ⟨r, h⟩ := textFrom_head (PyData.shownAll xs) 0 "[" (c := 91) (r := []) (by decide +kernel)
  obtain ⟨r', h'⟩ := cl_head_app (b := "]") h
  exact ⟨91, r', h', by decide⟩
theorem dict_head (xs : List (PyData × PyData)) : ∃ c r, cl (PyData.shown (.dict xs)) = c :: r ∧ c ≠ 40 := by
  rw [PyData.shown]
  unfold dictText
  obtain ⟨r, h⟩ := cl_head_app (a := ("{" : Str)) (b := Str.join ", " (PyData.shownKv xs)) (c := 123) (r := []) (by decide +kernel)
  obtain ⟨r', h'⟩ := cl_head_app (b := "}") h
  exact ⟨123, r', h', by decide⟩
theorem foldl_head (f : Nat → List Nat) : ∀ (l : List Nat) (acc : Array Nat) {c : Nat} {r : List Nat}, acc.toList = c :: r → ∃ r', (l.foldl (fun out c => out ++ (f c).toArray) acc).toList = c :: r'
  | [], acc, c, r, h => ⟨r, h⟩
  | x :: l, acc, c, r, h => by
    rw [List.foldl_cons]
    exact foldl_head f l _ (c := c) (r := r ++ f x) (by rw [Array.toList_append, h]; rfl)
theorem str_head (x : Str) : ∃ c r, cl (PyData.shown (.str x)) = c :: r ∧ c ≠ 40 := by
  rw [PyData.shown]
  unfold reprText cl
  rw [Array.toList_push, ← Array.foldl_toList]
  obtain ⟨r, h⟩ := foldl_head _ x.cps.toList #[reprQuote x] (c := reprQuote x) (r := []) rfl
  rw [h]
  refine ⟨_, _, rfl, ?_⟩
  unfold reprQuote
  split <;> decide
/-- a tuple that begins with a thing of this text -/
theorem tuple_head {x : PyData} {xs : List PyData} {c : Nat} {r : List Nat} (h : cl (PyData.shown x) = c :: r) : ∃ r', cl (PyData.shown (.tuple (x :: xs))) = 40 :: c :: r' := by
  rw [PyData.shown, PyData.shownAll]
  unfold tupleText
  rw [cl_app, cl_app, show cl ("(" : Str) = [40] by decide +kernel]
  cases PyData.shownAll xs with
  | nil =>
    show ∃ r', [40] ++ cl (PyData.shown x) ++ _ = _
    rw [h]
    exact ⟨_, rfl⟩
  | cons y ys =>
    show ∃ r', [40] ++ cl (PyData.shown x ++ ", " ++ Str.join ", " (y :: ys)) ++ _ = _
    rw [cl_app, cl_app, h]
    exact ⟨_, rfl⟩
end LT

/-! the least list with the fewest differences begins as one that was heard, or is all zeros: plain. -/
namespace LS
def candz (L : Nat) (s : List Int) : List Int := s ++ List.replicate (L - s.length) 0
def Leq (kn : Kn) (t u : List Int) : Prop := df kn t < df kn u ∨ (df kn t = df kn u ∧ (u = t ∨ Lt t u))
theorem Leq.refl {kn : Kn} {t : List Int} : Leq kn t t := .inr ⟨rfl, .inl rfl⟩
theorem Leq.trans {kn : Kn} {a b c : List Int} (h : Leq kn a b) (k : Leq kn b c) : Leq kn a c := by
  rcases h with h | ⟨h, h2⟩
  · rcases k with k | ⟨k, _⟩
    · exact .inl (Nat.lt_trans h k)
    · exact .inl (by omega)
  · rcases k with k | ⟨k, k2⟩
    · exact .inl (by omega)
    · refine .inr ⟨by omega, ?_⟩
      rcases h2 with rfl | h2
      · exact k2
      · rcases k2 with rfl | k2
        · exact .inr h2
        · exact .inr (h2.trans k2)
theorem zle : ∀ r : List Int, (∀ x ∈ r, 0 ≤ x) → r = List.replicate r.length 0 ∨ Lt (List.replicate r.length 0) r
  | [], _ => .inl rfl
  | x :: r, h => by
    rw [List.length_cons, List.replicate_succ]
    by_cases e : x = 0
    · subst e
      rcases zle r fun z hz => h z (List.mem_cons_of_mem _ hz) with k | k
      · exact .inl (congrArg (List.cons 0) k)
      · exact .inr (.tail k)
    · have := h x List.mem_cons_self
      exact .inr (.head (by omega))
theorem last_hit (kn : Kn) (u : List Int) : ∀ L : Nat, ∃ n, n ≤ L ∧ (n = 0 ∨ hit kn u (n - 1) = true) ∧ ∀ i, n ≤ i → i < L → hit kn u i = false
  | 0 => ⟨0, Nat.le_refl _, .inl rfl, fun i _ h => by omega⟩
  | L + 1 => by
    cases e : hit kn u L with
    | true => exact ⟨L + 1, Nat.le_refl _, .inr e, fun i h1 h2 => by omega⟩
    | false =>
      obtain ⟨n, h1, h2, h3⟩ := last_hit kn u L
      refine ⟨n, by omega, h2, fun i a b => ?_⟩
      by_cases q : i = L
      · rw [q]; exact e
      · exact h3 i a (by omega)
theorem least_of {kn : Kn} {w : Int} {L : Nat} {u : List Int} (hL : kn.length = L) (hu : Ext w L [] u) : ∃ c, (c = candz L [] ∨ ∃ s, some s ∈ kn ∧ c = candz L s) ∧ Leq kn c u := by
  obtain ⟨n, h1, h2, h3⟩ := last_hit kn u L
  have hul := hu.len
  have hn : (u.take n).length = n := by rw [List.length_take]; omega
  refine ⟨candz L (u.take n), ?_, ?_⟩
  · rcases h2 with rfl | h2
    · exact .inl (by rw [List.take_zero])
    · by_cases e0 : n = 0
      · subst e0; exact .inl (by rw [List.take_zero])
      · unfold hit at h2
        have h2 := of_decide_eq_true h2
        rw [show n - 1 + 1 = n by omega] at h2
        exact .inr ⟨u.take n, List.mem_of_getElem? h2, rfl⟩
  · have hp : (candz L (u.take n)).take n = u.take n := by
      unfold candz
      rw [List.take_append_of_le_length (by omega), List.take_take, Nat.min_self]
    have d1 : df kn u = dfc kn u n + (L - n) := by
      unfold df
      rw [hL]
      exact dfc_miss kn u h1 h3
    have d2 : dfc kn (candz L (u.take n)) n = dfc kn u n := dfc_congr kn hp
    have d3 : df kn (candz L (u.take n)) ≤ dfc kn u n + (L - n) := by
      unfold df
      rw [hL, ← d2]
      exact (dfc_mono kn _ h1).2
    by_cases q : df kn (candz L (u.take n)) < df kn u
    · exact .inl q
    · refine .inr ⟨by omega, ?_⟩
      have e : u = u.take n ++ u.drop n := (List.take_append_drop n u).symm
      have hd : (u.drop n).length = L - n := by rw [List.length_drop, hul]
      have := zle (u.drop n) fun x hx => (hu.ok x (List.mem_of_mem_drop hx)).1
      rw [hd] at this
      unfold candz
      rw [hn]
      rcases this with k | k
      · refine .inl ?_
        rw [← k]
        exact e
      · refine .inr ?_
        have := Lt.pre (u.take n) k
        rwa [← e] at this
theorem Leq.all {kn : Kn} {w : Int} {L : Nat} {t u : List Int} (hL : kn.length = L) (hu : Ext w L [] u) (h0 : Leq kn t (candz L [])) (h1 : ∀ s, some s ∈ kn → Leq kn t (candz L s)) : Leq kn t u := by
  obtain ⟨c, hc, hle⟩ := least_of hL hu
  rcases hc with rfl | ⟨s, hs, rfl⟩
  · exact h0.trans hle
  · exact (h1 s hs).trans hle
theorem Res.due2 {kn : Kn} {most : Int} {w : Int} {n : Nat} {t : List Int} {b' : Bst} (h : Res kn most (Ext w n []) none b') (ht : Ext w n [] t) (hf : ∀ u, Ext w n [] u → Leq kn t u) : b'.map Prod.snd = if (df kn t : Int) ≤ most then some t else none := by
  by_cases hm : (df kn t : Int) ≤ most
  · rw [if_pos hm]
    obtain ⟨c, u, e, z⟩ := h.best t ht hm
    rcases h.sound with q | ⟨t1, h1, h2, h3⟩
    · rw [q] at e; cases e
    · rw [h3] at e
      cases e
      have := hf u h1
      rw [h3]
      show some u = some t
      congr 1
      rcases z with z | ⟨z1, z2⟩
      · rcases this with k | k <;> omega
      · rcases this with k | ⟨_, k⟩
        · omega
        · rcases k with k | k
          · exact k
          · rcases z2 with z2 | z2 | z2
            · rw [h3] at z2; cases z2
            · exact z2
            · exact absurd (k.trans z2) Lt.irrefl
  · rw [if_neg hm]
    rcases h.sound with q | ⟨t1, h1, h2, h3⟩
    · rw [q]; rfl
    · rcases hf t1 h1 with k | k <;> omega
/-- the order of the tuples -/
theorem lx_lt : ∀ {t u : List Int}, t.length = u.length → (L3.lx t u = true ↔ Lt t u)
  | [], [], _ => ⟨fun h => absurd h (by unfold L3.lx; decide), (fun h => nomatch h)⟩
  | x :: t, y :: u, e => by
    rw [List.length_cons, List.length_cons] at e
    rw [L3.lx]
    by_cases q : x = y
    · subst q
      rw [if_pos rfl, lx_lt (by omega)]
      exact ⟨.tail, fun h => by
        cases h with
        | head h => omega
        | tail h => exact h⟩
    · rw [if_neg q, decide_eq_true_iff]
      exact ⟨.head, fun h => by
        cases h with
        | head h => exact h
        | tail h => exact absurd rfl q⟩
  | [], _ :: _, e => by cases e
  | _ :: _, [], e => by cases e
theorem Lt.tri : ∀ {t u : List Int}, t.length = u.length → ¬ Lt t u → t = u ∨ Lt u t
  | [], [], _, _ => .inl rfl
  | x :: t, y :: u, e, h => by
    rw [List.length_cons, List.length_cons] at e
    by_cases q : x = y
    · subst q
      rcases Lt.tri (t := t) (u := u) (by omega) fun k => h (.tail k) with k | k
      · exact .inl (congrArg _ k)
      · exact .inr (.tail k)
    · by_cases q2 : x < y
      · exact absurd (.head q2) h
      · exact .inr (.head (by omega))
  | [], _ :: _, e, _ => by cases e
  | _ :: _, [], e, _ => by cases e
theorem Leq.new {kn : Kn} {t u : List Int} (e : t.length = u.length) (h : (if (df kn u : Int) = (df kn t : Int) then L3.lx u t else decide ((df kn u : Int) < (df kn t : Int))) = true) : Leq kn u t := by
  by_cases q : (df kn u : Int) = (df kn t : Int)
  · rw [if_pos q] at h
    exact .inr ⟨by omega, .inr ((lx_lt e.symm).mp h)⟩
  · rw [if_neg q] at h
    have := of_decide_eq_true h
    exact .inl (by omega)
theorem Leq.old {kn : Kn} {t u : List Int} (e : t.length = u.length) (h : ¬ (if (df kn u : Int) = (df kn t : Int) then L3.lx u t else decide ((df kn u : Int) < (df kn t : Int))) = true) : Leq kn t u := by
  by_cases q : (df kn u : Int) = (df kn t : Int)
  · rw [if_pos q] at h
    exact .inr ⟨by omega, Lt.tri e.symm fun k => h ((lx_lt e.symm).mpr k)⟩
  · rw [if_neg q] at h
    have : ¬ ((df kn u : Int) < (df kn t : Int)) := fun k => h (decide_eq_true k)
    exact .inl (by omega)
end LS

namespace K16
open PySem PySem.Spec PyProof.Rows L2 L3 L5
def top (i : Nat) : Stmt := PySem.Challenge.pw_lyingwire_k16_long_lists_and_letters_of.main.body.getD i (.Pass ⟨0, 0, 0, 0⟩)
abbrev st__law_deck : Stmt := top 15
abbrev st__law_draw : Stmt := top 16
abbrev st__law_list : Stmt := top 18
abbrev st__law_pick : Stmt := top 17
abbrev st__law_values : Stmt := top 19
abbrev st__law_heard : Stmt := top 20
abbrev st__law_is_list : Stmt := top 21
abbrev st__law_due : Stmt := top 22
abbrev st_ListSearch___init__ : Stmt := inClass (top 12) 0
abbrev st_next_symbols : Stmt := top 11
abbrev st_ListSearch_candidates : Stmt := inClass (top 12) 3
abbrev st_ListSearch_is_possible : Stmt := inClass (top 12) 2
abbrev st_ListSearch_descend : Stmt := inClass (top 12) 4
abbrev st_is_integer : Stmt := top 2
abbrev st_is_index : Stmt := top 3
abbrev st_is_symbol_list : Stmt := top 9
abbrev st_lists_heard : Stmt := top 10
abbrev st_ListSearch_fix : Stmt := inClass (top 12) 1
abbrev st_ListCode_fewest : Stmt := inClass (top 13) 3
abbrev st_ListCode_decoded : Stmt := inClass (top 7) 6
abbrev st_law : Stmt := top 23
theorem sc__law_deck : FnScope ["_law_script", "_law_numbers", "_law_mixed", "_law_number"] ["_law_script"] (defScope st__law_deck) := ⟨rfl, rfl, rfl, by decide +kernel, rfl, by decide +kernel, by decide +kernel⟩
theorem sc__law_draw : FnScope ["_law_deck_here", "_law_limit", "_law_turn", "_law_number"] ["_law_deck_here", "_law_limit"] (defScope st__law_draw) := ⟨rfl, rfl, rfl, by decide +kernel, rfl, by decide +kernel, by decide +kernel⟩
theorem sc__law_list : FnScope ["_law_deck_here", "_law_limit", "_law_start", "_law_length", "_law_found"] ["_law_deck_here", "_law_limit", "_law_start", "_law_length"] (defScope st__law_list) := ⟨rfl, rfl, rfl, by decide +kernel, rfl, by decide +kernel, by decide +kernel⟩
theorem sc__law_pick : FnScope ["_law_deck_here", "_law_items"] ["_law_deck_here", "_law_items"] (defScope st__law_pick) := ⟨rfl, rfl, rfl, by decide +kernel, rfl, by decide +kernel, by decide +kernel⟩
theorem sc__law_values : FnScope ["_law_letter", "_law_limit", "_law_deep", "_law_far", "_law_k", "_law_odd"] ["_law_letter", "_law_limit"] (defScope st__law_values) := ⟨rfl, rfl, rfl, by decide +kernel, rfl, by decide +kernel, by decide +kernel⟩
theorem sc__law_heard : FnScope ["_law_deck_here", "_law_limit", "_law_length", "_law_bound", "_law_hidden", "_law_at", "_law_few", "_law_second", "_law_third", "_law_found", "_law_places", "_law_place", "_law_some", "_law_number", "_law_k"] ["_law_deck_here", "_law_limit", "_law_length", "_law_bound"] (defScope st__law_heard) := ⟨rfl, rfl, rfl, by decide +kernel, rfl, by decide +kernel, by decide +kernel⟩
theorem sc__law_is_list : FnScope ["_law_thing", "_law_length", "_law_limit", "_law_odd", "_law_one"] ["_law_thing", "_law_length", "_law_limit"] (defScope st__law_is_list) := ⟨rfl, rfl, rfl, by decide +kernel, rfl, by decide +kernel, by decide +kernel⟩
theorem sc__law_due : FnScope ["_law_heard_here", "_law_limit", "_law_bound", "_law_length", "_law_best", "_law_known", "_law_start", "_law_symbols", "_law_count", "_law_k", "_law_letter"] ["_law_heard_here", "_law_limit", "_law_bound"] (defScope st__law_due) := ⟨rfl, rfl, rfl, by decide +kernel, rfl, by decide +kernel, by decide +kernel⟩
theorem sc_ListSearch___init__ : FnScope ["self", "known", "width", "start", "other"] ["self", "known", "width", "start", "other"] (defScope st_ListSearch___init__) := ⟨rfl, rfl, rfl, by decide +kernel, rfl, by decide +kernel, by decide +kernel⟩
theorem sc_next_symbols : FnScope ["known", "symbols", "at", "one"] ["known", "symbols"] (defScope st_next_symbols) := ⟨rfl, rfl, rfl, by decide +kernel, rfl, by decide +kernel, by decide +kernel⟩
theorem sc_ListSearch_candidates : FnScope ["self", "symbols", "at", "unwanted", "found", "least", "symbol"] ["self", "symbols"] (defScope st_ListSearch_candidates) := ⟨rfl, rfl, rfl, by decide +kernel, rfl, by decide +kernel, by decide +kernel⟩
theorem sc_ListSearch_is_possible : FnScope ["self", "number", "is_same"] ["self", "number", "is_same"] (defScope st_ListSearch_is_possible) := ⟨rfl, rfl, rfl, by decide +kernel, rfl, by decide +kernel, by decide +kernel⟩
theorem sc_ListSearch_descend : FnScope ["self", "symbols", "count", "most", "symbol", "longer", "is_same"] ["self", "symbols", "count", "most"] (defScope st_ListSearch_descend) := ⟨rfl, rfl, rfl, by decide +kernel, rfl, by decide +kernel, by decide +kernel⟩
theorem sc_is_integer : FnScope ["thing"] ["thing"] (defScope st_is_integer) := ⟨rfl, rfl, rfl, by decide +kernel, rfl, by decide +kernel, by decide +kernel⟩
theorem sc_is_index : FnScope ["thing", "limit"] ["thing", "limit"] (defScope st_is_index) := ⟨rfl, rfl, rfl, by decide +kernel, rfl, by decide +kernel, by decide +kernel⟩
theorem sc_is_symbol_list : FnScope ["thing", "length", "width", "symbol"] ["thing", "length", "width"] (defScope st_is_symbol_list) := ⟨rfl, rfl, rfl, by decide +kernel, rfl, by decide +kernel, by decide +kernel⟩
theorem sc_lists_heard : FnScope ["letters", "width", "number", "letter"] ["letters", "width"] (defScope st_lists_heard) := ⟨rfl, rfl, rfl, by decide +kernel, rfl, by decide +kernel, by decide +kernel⟩
theorem sc_ListSearch_fix : FnScope ["self", "number", "is_same"] ["self", "number", "is_same"] (defScope st_ListSearch_fix) := ⟨rfl, rfl, rfl, by decide +kernel, rfl, by decide +kernel, by decide +kernel⟩
theorem sc_ListCode_fewest : FnScope ["self", "letters", "width", "most", "start", "other", "agree", "differ", "search"] ["self", "letters", "width", "most", "start", "other", "agree", "differ"] (defScope st_ListCode_fewest) := ⟨rfl, rfl, rfl, by decide +kernel, rfl, by decide +kernel, by decide +kernel⟩
theorem sc_ListCode_decoded : FnScope ["self", "letters", "width", "most", "found"] ["self", "letters", "width", "most"] (defScope st_ListCode_decoded) := ⟨rfl, rfl, rfl, by decide +kernel, rfl, by decide +kernel, by decide +kernel⟩
theorem sc_law : FnScope ["_law_script", "_law_deck_here", "_law_code", "_law_turn", "_law_limit", "_law_length", "_law_bound", "_law_heard_here", "_law_is_within", "_law_due_here", "_law_kept", "_law_told"] ["_law_script"] (defScope st_law) := ⟨rfl, rfl, rfl, by decide +kernel, rfl, by decide +kernel, by decide +kernel⟩
structure Ad where
  ListSearch : Addr
  ListCode : Addr
  Code : Addr
def nm_ListSearch : List Str := ["lists_known", "width_allowed", "start_wanted", "other_unwanted", "rounds_fixed", "best_found"]
def nm_ListCode : List Str := []
def nm_Code : List Str := []
/-- what the module's names stand for -/
structure Txt (K : PySem.W.Frag) (mg : Str → Option Value) (D : Ad) : Prop where
  b_all : mg "all" = none
  b_bool : mg "bool" = none
  b_enumerate : mg "enumerate" = none
  b_int : mg "int" = none
  b_isinstance : mg "isinstance" = none
  b_len : mg "len" = none
  b_list : mg "list" = none
  b_range : mg "range" = none
  b_repr : mg "repr" = none
  b_sorted : mg "sorted" = none
  b_tuple : mg "tuple" = none
  g_ListSearch : mg "ListSearch" = some (.ref D.ListSearch)
  cl_ListSearch : ClsF K D.ListSearch nm_ListSearch
  g_ListCode : mg "ListCode" = some (.ref D.ListCode)
  cl_ListCode : ClsF K D.ListCode nm_ListCode
  mk_ListCode : Mk0 K D.ListCode
  g_Code : mg "Code" = some (.ref D.Code)
  cv_Code_LONGEST : ∃ mc w, ClX.CRead K D.Code mc ∧ ClX.CVal K D.Code mc "LONGEST" (.int 30) w
section
variable {P : Program} {w : World} {K : PySem.W.Frag} {mg : Str → Option Value} {base : Heap} {D : Ad}
noncomputable def dv__law_deck {n : Nat} (T : Txt K mg D) {f : Addr} {cdv : Value} {A : Around} {outer : List Env} {s : Shared} {H : Hp} {E : XK} (hgd : (A.deeper (envOfC "_law_deck" (defScope st__law_deck) s.heap.objs.size f cdv)).guards = some []) (hr : Room (n + 0) (A.deeper (envOfC "_law_deck" (defScope st__law_deck) s.heap.objs.size f cdv))) :
    {t : TS // PSs (cxOf CX0 P w K mg base ["_law_script", "_law_numbers", "_law_mixed", "_law_number"] "_law_deck" (defScope st__law_deck) f cdv A outer s H E).nox (defBody st__law_deck) t} := ⟨_, (pss_cons (ps_par (i := 1) (j := 2) rfl sc__law_deck.nd rfl rfl (by decide) rfl rfl (pa_cons (pe_callTy (kList (K := K)) (by rfl) T.b_list (by decide +kernel) (pa_cons (pe_slice (kSlG (K := K)) (pv 0) po_none (po_some pe_int)) pa_nil)) (pa_cons pe_int pa_nil)) (by rfl))
    (pss_cons (ps_for PassesOwn.never rfl (pi_seqK (K := K) (pv 1)) (pg_name (i := 3) sc__law_deck.nd rfl (Or.inl rfl)) (pss_one (ps_set (i := 2) sc__law_deck.nd rfl (Or.inl rfl) (pe_op oMod (pe_op (kAddB (K := K)) (pe_op (kAddB (K := K)) (pe_op (kMulG (K := K)) (pv 2) pe_int) (pe_op oMod (pv 3) pe_int)) pe_int) pe_int))))
    (pss_one (ps_ret (pe_disp (pps_cons pe_str (pe_revB (K := K) (pv 1)) (pps_cons pe_str (pv 2) (pps_cons pe_str pe_int pps_nil))) rfl rfl (by decide) (by decide))))))⟩
def sv__law_deck (hT : Txt K mg D) : {tf : TS × ATS // SS K tf.1 tf.2} := pk (ss_cons (ss_par (i := 1) (j := 2) (sa_cons (se_cb sl_list (sa_cons (se_sl sl_any (se_var (i := 0)) sp_no (sp_part (se_int (i := 63)))) sa_nil)) (sa_cons (se_int (i := 16033)) sa_nil)))
    (ss_cons (ss_for (si_seq (se_var (i := 1))) (sg_name (i := 3)) (ss_asg (se_op so_mod (se_op so_addB (se_op so_addB (se_op so_mul (se_var (i := 2)) (se_int (i := 48271))) (se_op so_mod (se_var (i := 3)) (se_int (i := 2147483629)))) (se_int (i := 41))) (se_int (i := 2147483587))) (sg_name (i := 2))))
    (ss_ret (se_dispO (sps_cons (se_str (i := "numbers")) (se_revOB (se_var (i := 1))) (sps_cons (se_str (i := "mixed")) (se_var (i := 2)) (sps_cons (se_str (i := "choices")) (se_int (i := 0)) sps_nil)))))))
theorem oa__law_deck {n : Nat} (T : Txt K mg D) {f : Addr} {fd : FuncData} (F : Fun K "_law_deck" "_law_deck" st__law_deck f fd) {asp : AL} (hlen : ∀ vs S R, asp vs S R → vs.length = 1)
    (h : ∀ vs S R, asp vs S R → (sv__law_deck T).1.2 { nx := fun _ S => R .non S, rt := R } (startA ["_law_script", "_law_numbers", "_law_mixed", "_law_number"] vs) S) : FnG P w K mg base CX0 (n + 1) f fd ["_law_script"] (cSp K asp) :=
  okA F sc__law_deck (fun cdv A outer s H E hgd hr => (dv__law_deck T hgd hr).2) (sv__law_deck T).2 (by decide) hlen h
noncomputable def dv__law_draw {n : Nat} (T : Txt K mg D) {f : Addr} {cdv : Value} {A : Around} {outer : List Env} {s : Shared} {H : Hp} {E : XK} (hgd : (A.deeper (envOfC "_law_draw" (defScope st__law_draw) s.heap.objs.size f cdv)).guards = some []) (hr : Room (n + 0) (A.deeper (envOfC "_law_draw" (defScope st__law_draw) s.heap.objs.size f cdv))) :
    {t : TS // PSs (cxOf CX0 P w K mg base ["_law_deck_here", "_law_limit", "_law_turn", "_law_number"] "_law_draw" (defScope st__law_draw) f cdv A outer s H E).nox (defBody st__law_draw) t} := ⟨_, (pss_cons (ps_set (i := 2) sc__law_draw.nd rfl (Or.inl rfl) (pe_op (kAddB (K := K)) (pe_dget (room_1 hr) (pv 0) pe_str (fun _ _ => rfl)) pe_int))
    (pss_cons (ps_asg (pe_tupF (pa_cons (pv 2) (pa_cons (pe_dget (room_1 hr) (pv 0) pe_str (fun _ _ => rfl)) pa_nil))) (tupUK (K := K) (pg_tupU (n := 2) rfl (pgs_cons (pg_sub (pv 0) pe_str (set_dict (room_1 hr)) (fun _ => rfl)) (pgs_cons (pg_name (i := 3) sc__law_draw.nd rfl (Or.inl rfl)) pgs_nil)))))
    (pss_join (ps_if (pt_cmpR (kNeNil (K := K) hr) (pe_dget (room_1 hr) (pv 0) pe_str (fun _ _ => rfl)) (pe_lst pa_nil) (by first | exact nomark _ | rfl)) (pss_cons (ps_set (i := 3) sc__law_draw.nd rfl (Or.inl rfl) (bm0K (K := K) (pe_bm0 PySem.F.plainAttrs_list PySem.F.slot_list_pop PySem.F.type_list_pop mt_pop (pe_dget (room_1 hr) (pv 0) pe_str (fun _ _ => rfl)))))
    (pss_cons (ps_if (pt_cmpR oGe (pv 3) (pe_op oPow pe_int pe_int) (by first | exact nomark _ | rfl)) (pss_cons (ps_expr (bmK (K := K) (pe_bm PySem.F.plainAttrs_list PySem.F.slot_list_append PySem.F.type_list_append mt_append (pe_dget (room_1 hr) (pv 0) pe_str (fun _ _ => rfl)) (pa_cons (pe_op op_fdivW (pv 3) (pv 1)) pa_nil))))
    (pss_one (ps_ret (pe_op oMod (pv 3) (pv 1))))) pss_nil)
    (pss_one (ps_set (i := 3) sc__law_draw.nd rfl (Or.inl rfl) (pe_op (kAddB (K := K)) (pv 3) (pe_dget (room_1 hr) (pv 0) pe_str (fun _ _ => rfl))))))) pss_nil)
    (pss_cons (ps_set (i := 3) sc__law_draw.nd rfl (Or.inl rfl) (pe_op oMod (pe_op (kMulG (K := K)) (pe_op (kAddB (K := K)) (pe_op (kAddB (K := K)) (pe_op oMod (pv 3) pe_int) (pe_op (kMulG (K := K)) (pe_op (kMulG (K := K)) pe_int (pv 2)) (pv 2))) pe_int) pe_int) pe_int))
    (pss_cons (ps_set (i := 3) sc__law_draw.nd rfl (Or.inl rfl) (pe_op oMod (pe_op (kAddB (K := K)) (pe_op (kAddB (K := K)) (pe_op (kMulG (K := K)) (pv 3) (pv 3)) (pe_op (kMulG (K := K)) pe_int (pv 2))) pe_int) pe_int))
    (pss_one (ps_ret (pe_op oMod (pe_op op_fdivW (pe_op oMod (pe_op (kMulG (K := K)) (pv 3) pe_int) pe_int) pe_int) (pv 1)))))))))⟩
def sv__law_draw (hT : Txt K mg D) : {tf : TS × ATS // SS K tf.1 tf.2} := pk (ss_cons (ss_asg (se_op so_addB (se_dget (se_var (i := 0)) (se_str (i := "choices"))) (se_int (i := 1))) (sg_name (i := 2)))
    (ss_cons (ss_asg (se_tup (sa_cons (se_var (i := 2)) (sa_cons (se_dget (se_var (i := 0)) (se_str (i := "mixed"))) sa_nil))) (sg_tupU (n := 2) (sgs_cons (sg_subD (se_var (i := 0)) (se_str (i := "choices"))) (sgs_cons (sg_name (i := 3)) sgs_nil))))
    (ss_join (ss_if (st_test (se_op so_neNil (se_dget (se_var (i := 0)) (se_str (i := "numbers"))) (se_lst sa_nil))) (ss_cons (ss_asg (se_bm0 sm_pop (se_dget (se_var (i := 0)) (se_str (i := "numbers")))) (sg_name (i := 3)))
    (ss_cons (ss_if (st_test (se_op so_ge (se_var (i := 3)) (se_op so_pow (se_int (i := 10)) (se_int (i := 18))))) (ss_cons (ss_expr (se_bm sm_append (se_dget (se_var (i := 0)) (se_str (i := "numbers"))) (sa_cons (se_op so_fdivW (se_var (i := 3)) (se_var (i := 1))) sa_nil)))
    (ss_ret (se_op so_mod (se_var (i := 3)) (se_var (i := 1))))) ss_nil)
    (ss_asg (se_op so_addB (se_var (i := 3)) (se_dget (se_var (i := 0)) (se_str (i := "mixed")))) (sg_name (i := 3))))) ss_nil)
    (ss_cons (ss_asg (se_op so_mod (se_op so_mul (se_op so_addB (se_op so_addB (se_op so_mod (se_var (i := 3)) (se_int (i := 2147483629))) (se_op so_mul (se_op so_mul (se_int (i := 65551)) (se_var (i := 2))) (se_var (i := 2)))) (se_int (i := 31))) (se_int (i := 39373))) (se_int (i := 2147483647))) (sg_name (i := 3)))
    (ss_cons (ss_asg (se_op so_mod (se_op so_addB (se_op so_addB (se_op so_mul (se_var (i := 3)) (se_var (i := 3))) (se_op so_mul (se_int (i := 69621)) (se_var (i := 2)))) (se_int (i := 17))) (se_int (i := 2147483587))) (sg_name (i := 3)))
    (ss_ret (se_op so_mod (se_op so_fdivW (se_op so_mod (se_op so_mul (se_var (i := 3)) (se_int (i := 40692))) (se_int (i := 2147483563))) (se_int (i := 64))) (se_var (i := 1)))))))))
theorem oa__law_draw {n : Nat} (T : Txt K mg D) {f : Addr} {fd : FuncData} (F : Fun K "_law_draw" "_law_draw" st__law_draw f fd) {asp : AL} (hlen : ∀ vs S R, asp vs S R → vs.length = 2)
    (h : ∀ vs S R, asp vs S R → (sv__law_draw T).1.2 { nx := fun _ S => R .non S, rt := R } (startA ["_law_deck_here", "_law_limit", "_law_turn", "_law_number"] vs) S) : FnG P w K mg base CX0 (n + 1) f fd ["_law_deck_here", "_law_limit"] (cSp K asp) :=
  okA F sc__law_draw (fun cdv A outer s H E hgd hr => (dv__law_draw T hgd hr).2) (sv__law_draw T).2 (by decide) hlen h
noncomputable def dv__law_list {n : Nat} (T : Txt K mg D) {asp__law_draw : AL} (cg__law_draw : Cg P w K mg base CX0 n "_law_draw" (cSp K asp__law_draw)) {f : Addr} {cdv : Value} {A : Around} {outer : List Env} {s : Shared} {H : Hp} {E : XK} (hgd : (A.deeper (envOfC "_law_list" (defScope st__law_list) s.heap.objs.size f cdv)).guards = some []) (hr : Room (n + 0) (A.deeper (envOfC "_law_list" (defScope st__law_list) s.heap.objs.size f cdv))) :
    {t : TS // PSs (cxOf CX0 P w K mg base ["_law_deck_here", "_law_limit", "_law_start", "_law_length", "_law_found"] "_law_list" (defScope st__law_list) f cdv A outer s H E).nox (defBody st__law_list) t} := ⟨_, (pss_cons (ps_set (i := 4) sc__law_list.nd rfl (Or.inl rfl) (pe_callTy (kList (K := K)) (by rfl) T.b_list (by decide +kernel) (pa_cons (pv 2) pa_nil)))
    (pss_cons (ps_while PassesOwn.never (pt_cmpR oLt (pe_callB (kLen (K := K)) (by rfl) T.b_len (by decide +kernel) (pa_cons (pv 4) pa_nil)) (pv 3) (by first | exact nomark _ | rfl)) (pss_one (ps_expr (bmK (K := K) (pe_bm PySem.F.plainAttrs_list PySem.F.slot_list_append PySem.F.type_list_append mt_append (pv 4) (pa_cons (pe_join (pe_ifExp (pt_cmpR (kEqB (K := K) hr) (pe_cg cg__law_draw hgd hr (Nat.le_add_right n _) (by rfl) pass0 (pa_cons (pv 0) (pa_cons pe_int pa_nil))) pe_int (by first | exact nomark _ | rfl)) (pe_cg cg__law_draw hgd hr (Nat.le_add_right n _) (by rfl) pass0 (pa_cons (pv 0) (pa_cons (pv 1) pa_nil))) pe_int)) pa_nil))))))
    (pss_one (ps_ret (pe_callTy (kTupleF (K := K)) (by rfl) T.b_tuple (by decide +kernel) (pa_cons (pv 4) pa_nil))))))⟩
def sv__law_list (hT : Txt K mg D) {asp__law_draw : AL} : {tf : TS × ATS // SS K tf.1 tf.2} := pk (ss_cons (ss_asg (se_cb sl_listO (sa_cons (se_var (i := 2)) sa_nil)) (sg_name (i := 4)))
    (ss_cons (ss_while (st_test (se_op so_lt (se_cb sl_len (sa_cons (se_var (i := 4)) sa_nil)) (se_var (i := 3)))) (ss_expr (se_bm sm_append (se_var (i := 4)) (sa_cons (se_join (se_if (st_test (se_op so_eqB (se_call (g := asp__law_draw) (sa_cons (se_var (i := 0)) (sa_cons (se_int (i := 2)) sa_nil))) (se_int (i := 0)))) (se_call (g := asp__law_draw) (sa_cons (se_var (i := 0)) (sa_cons (se_var (i := 1)) sa_nil))) (se_int (i := 0)))) sa_nil))))
    (ss_ret (se_cb sl_tuple (sa_cons (se_var (i := 4)) sa_nil)))))
theorem oa__law_list {n : Nat} (T : Txt K mg D) {asp__law_draw : AL} (cg__law_draw : Cg P w K mg base CX0 n "_law_draw" (cSp K asp__law_draw)) {f : Addr} {fd : FuncData} (F : Fun K "_law_list" "_law_list" st__law_list f fd) {asp : AL} (hlen : ∀ vs S R, asp vs S R → vs.length = 4)
    (h : ∀ vs S R, asp vs S R → (sv__law_list T (asp__law_draw := asp__law_draw)).1.2 { nx := fun _ S => R .non S, rt := R } (startA ["_law_deck_here", "_law_limit", "_law_start", "_law_length", "_law_found"] vs) S) : FnG P w K mg base CX0 (n + 1) f fd ["_law_deck_here", "_law_limit", "_law_start", "_law_length"] (cSp K asp) :=
  okA F sc__law_list (fun cdv A outer s H E hgd hr => (dv__law_list T cg__law_draw hgd hr).2) (sv__law_list T (asp__law_draw := asp__law_draw)).2 (by decide) hlen h
noncomputable def dv__law_pick {n : Nat} (T : Txt K mg D) {asp__law_draw : AL} (cg__law_draw : Cg P w K mg base CX0 n "_law_draw" (cSp K asp__law_draw)) {f : Addr} {cdv : Value} {A : Around} {outer : List Env} {s : Shared} {H : Hp} {E : XK} (hgd : (A.deeper (envOfC "_law_pick" (defScope st__law_pick) s.heap.objs.size f cdv)).guards = some []) (hr : Room (n + 0) (A.deeper (envOfC "_law_pick" (defScope st__law_pick) s.heap.objs.size f cdv))) :
    {t : TS // PSs (cxOf CX0 P w K mg base ["_law_deck_here", "_law_items"] "_law_pick" (defScope st__law_pick) f cdv A outer s H E).nox (defBody st__law_pick) t} := ⟨_, (pss_one (ps_ret (pe_ix (kIx (K := K)) (pv 1) (pe_cg cg__law_draw hgd hr (Nat.le_add_right n _) (by rfl) pass0 (pa_cons (pv 0) (pa_cons (pe_callB (kLen (K := K)) (by rfl) T.b_len (by decide +kernel) (pa_cons (pv 1) pa_nil)) pa_nil))) (fun _ _ => rfl))))⟩
def sv__law_pick (hT : Txt K mg D) {asp__law_draw : AL} : {tf : TS × ATS // SS K tf.1 tf.2} := pk (ss_ret (se_op so_ix (se_var (i := 1)) (se_call (g := asp__law_draw) (sa_cons (se_var (i := 0)) (sa_cons (se_cb sl_len (sa_cons (se_var (i := 1)) sa_nil)) sa_nil)))))
theorem oa__law_pick {n : Nat} (T : Txt K mg D) {asp__law_draw : AL} (cg__law_draw : Cg P w K mg base CX0 n "_law_draw" (cSp K asp__law_draw)) {f : Addr} {fd : FuncData} (F : Fun K "_law_pick" "_law_pick" st__law_pick f fd) {asp : AL} (hlen : ∀ vs S R, asp vs S R → vs.length = 2)
    (h : ∀ vs S R, asp vs S R → (sv__law_pick T (asp__law_draw := asp__law_draw)).1.2 { nx := fun _ S => R .non S, rt := R } (startA ["_law_deck_here", "_law_items"] vs) S) : FnG P w K mg base CX0 (n + 1) f fd ["_law_deck_here", "_law_items"] (cSp K asp) :=
  okA F sc__law_pick (fun cdv A outer s H E hgd hr => (dv__law_pick T cg__law_draw hgd hr).2) (sv__law_pick T (asp__law_draw := asp__law_draw)).2 (by decide) hlen h
noncomputable def dv__law_values {n : Nat} (T : Txt K mg D) {f : Addr} {cdv : Value} {A : Around} {outer : List Env} {s : Shared} {H : Hp} {E : XK} (hgd : (A.deeper (envOfC "_law_values" (defScope st__law_values) s.heap.objs.size f cdv)).guards = some []) (hr : Room (n + 0) (A.deeper (envOfC "_law_values" (defScope st__law_values) s.heap.objs.size f cdv))) :
    {t : TS // PSs (cxOf CX0 P w K mg base ["_law_letter", "_law_limit", "_law_deep", "_law_far", "_law_k", "_law_odd"] "_law_values" (defScope st__law_values) f cdv A outer s H E).nox (defBody st__law_values) t} := ⟨_, (pss_cons (ps_par (i := 2) (j := 3) rfl sc__law_values.nd rfl rfl (by decide) rfl rfl (pa_cons (pe_tupF pa_nil) (pa_cons (pe_lst pa_nil) pa_nil)) (by rfl))
    (pss_cons (ps_for PassesOwn.never rfl (pi_range1 (by rfl) T.b_range (pa_cons pe_int pa_nil)) (pg_name (i := 4) sc__law_values.nd rfl (Or.inl rfl)) (pss_one (ps_par (i := 2) (j := 3) rfl sc__law_values.nd rfl rfl (by decide) rfl rfl (pa_cons (pe_tupF (pa_cons (pv 2) pa_nil)) (pa_cons (pe_lst (pa_cons (pv 3) pa_nil)) pa_nil)) (by rfl))))
    (pss_cons (ps_set (i := 5) sc__law_values.nd rfl (Or.inl rfl) (pe_lst (pa_cons pe_non (pa_cons pe_bl (pa_cons pe_int (pa_cons pe_str (pa_cons (pe_op (kMulW (K := K)) pe_str pe_int) (pa_cons (pe_tupF pa_nil) (pa_cons (pe_lst pa_nil) (pa_cons pe_dnewK (pa_cons (pv 2) (pa_cons (pv 3) (pa_cons (pe_disp (pps_cons pe_int (pv 3) pps_nil) rfl rfl (by decide) (by decide)) (pa_cons (pe_op (kMulG (K := K)) (pe_tupF (pa_cons (pe_op oPow pe_int pe_int) pa_nil)) (pe_callB (kLen (K := K)) (by rfl) T.b_len (by decide +kernel) (pa_cons (pv 0) pa_nil))) (pa_cons (pe_callTy (kList (K := K)) (by rfl) T.b_list (by decide +kernel) (pa_cons (pv 0) pa_nil)) pa_nil)))))))))))))))
    (pss_cons (ps_set (i := 5) sc__law_values.nd rfl (Or.inl rfl) (pe_op (kAddB (K := K)) (pv 5) (pe_lst (pa_cons (pe_slice (kSlG (K := K)) (pv 0) po_none (po_some (pe_un un_neg pe_int))) (pa_cons (pe_op (kAddB (K := K)) (pv 0) (pe_tupF (pa_cons pe_int pa_nil))) (pa_cons (pe_op (kAddB (K := K)) (pe_slice (kSlG (K := K)) (pv 0) po_none (po_some (pe_un un_neg pe_int))) (pe_tupF (pa_cons (pv 1) pa_nil))) (pa_cons (pe_op (kAddB (K := K)) (pe_slice (kSlG (K := K)) (pv 0) po_none (po_some (pe_un un_neg pe_int))) (pe_tupF (pa_cons (pe_un un_neg pe_int) pa_nil))) (pa_cons (pe_tupF (pa_cons (pv 0) pa_nil)) (pa_cons (pe_callB (kReprQ (K := K) hgd hr) (by rfl) T.b_repr (by decide +kernel) (pa_cons (pv 0) pa_nil)) pa_nil)))))))))
    (pss_one (ps_ret (pe_op (kAddB (K := K)) (pv 5) (pe_lst (pa_cons (pe_op (kAddB (K := K)) (pe_tupF (pa_cons pe_bl pa_nil)) (pe_slice (kSlG (K := K)) (pv 0) (po_some pe_int) po_none)) (pa_cons (pe_op (kMulG (K := K)) (pe_tupF (pa_cons pe_bl pa_nil)) (pe_callB (kLen (K := K)) (by rfl) T.b_len (by decide +kernel) (pa_cons (pv 0) pa_nil))) (pa_cons (pe_op (kAddB (K := K)) (pe_slice (kSlG (K := K)) (pv 0) po_none (po_some (pe_un un_neg pe_int))) (pe_tupF (pa_cons pe_non pa_nil))) (pa_cons (pe_op (kMulW (K := K)) (pe_tupF (pa_cons pe_int pa_nil)) pe_int) pa_nil))))))))))))⟩
def sv__law_values (hT : Txt K mg D) : {tf : TS × ATS // SS K tf.1 tf.2} := pk (ss_cons (ss_par (i := 2) (j := 3) (sa_cons (se_tup sa_nil) (sa_cons (se_lst sa_nil) sa_nil)))
    (ss_cons (ss_for (si_rng1 (sa_cons (se_int (i := 26)) sa_nil)) (sg_name (i := 4)) (ss_par (i := 2) (j := 3) (sa_cons (se_tup (sa_cons (se_var (i := 2)) sa_nil)) (sa_cons (se_lst (sa_cons (se_var (i := 3)) sa_nil)) sa_nil))))
    (ss_cons (ss_asg (se_lst (sa_cons se_non (sa_cons (se_bl (i := true)) (sa_cons (se_int (i := 0)) (sa_cons (se_str (i := "")) (sa_cons (se_op so_mulW (se_str (i := "a")) (se_int (i := 2000))) (sa_cons (se_tup sa_nil) (sa_cons (se_lst sa_nil) (sa_cons se_newDF (sa_cons (se_var (i := 2)) (sa_cons (se_var (i := 3)) (sa_cons (se_disp (sps_cons (se_int (i := 0)) (se_var (i := 3)) sps_nil)) (sa_cons (se_op so_mul (se_tup (sa_cons (se_op so_pow (se_int (i := 10)) (se_int (i := 39))) sa_nil)) (se_cb sl_len (sa_cons (se_var (i := 0)) sa_nil))) (sa_cons (se_cb sl_list (sa_cons (se_var (i := 0)) sa_nil)) sa_nil)))))))))))))) (sg_name (i := 5)))
    (ss_cons (ss_asg (se_op so_addB (se_var (i := 5)) (se_lst (sa_cons (se_sl sl_any (se_var (i := 0)) sp_no (sp_part (se_un s1_neg1 (se_int (i := 1))))) (sa_cons (se_op so_addB (se_var (i := 0)) (se_tup (sa_cons (se_int (i := 0)) sa_nil))) (sa_cons (se_op so_addB (se_sl sl_any (se_var (i := 0)) sp_no (sp_part (se_un s1_neg1 (se_int (i := 1))))) (se_tup (sa_cons (se_var (i := 1)) sa_nil))) (sa_cons (se_op so_addB (se_sl sl_any (se_var (i := 0)) sp_no (sp_part (se_un s1_neg1 (se_int (i := 1))))) (se_tup (sa_cons (se_un s1_neg1 (se_int (i := 1))) sa_nil))) (sa_cons (se_tup (sa_cons (se_var (i := 0)) sa_nil)) (sa_cons (se_cb sl_reprQ (sa_cons (se_var (i := 0)) sa_nil)) sa_nil)))))))) (sg_name (i := 5)))
    (ss_ret (se_op so_addB (se_var (i := 5)) (se_lst (sa_cons (se_op so_addB (se_tup (sa_cons (se_bl (i := true)) sa_nil)) (se_sl sl_any (se_var (i := 0)) (sp_part (se_int (i := 1))) sp_no)) (sa_cons (se_op so_mul (se_tup (sa_cons (se_bl (i := false)) sa_nil)) (se_cb sl_len (sa_cons (se_var (i := 0)) sa_nil))) (sa_cons (se_op so_addB (se_sl sl_any (se_var (i := 0)) sp_no (sp_part (se_un s1_neg1 (se_int (i := 1))))) (se_tup (sa_cons se_non sa_nil))) (sa_cons (se_op so_mulW (se_tup (sa_cons (se_int (i := 0)) sa_nil)) (se_int (i := 3000))) sa_nil)))))))))))
theorem oa__law_values {n : Nat} (T : Txt K mg D) {f : Addr} {fd : FuncData} (F : Fun K "_law_values" "_law_values" st__law_values f fd) {asp : AL} (hlen : ∀ vs S R, asp vs S R → vs.length = 2)
    (h : ∀ vs S R, asp vs S R → (sv__law_values T).1.2 { nx := fun _ S => R .non S, rt := R } (startA ["_law_letter", "_law_limit", "_law_deep", "_law_far", "_law_k", "_law_odd"] vs) S) : FnG P w K mg base CX0 (n + 1) f fd ["_law_letter", "_law_limit"] (cSp K asp) :=
  okA F sc__law_values (fun cdv A outer s H E hgd hr => (dv__law_values T hgd hr).2) (sv__law_values T).2 (by decide) hlen h
noncomputable def dv__law_heard {n : Nat} (T : Txt K mg D) {asp__law_list : AL} {asp__law_draw : AL} {asp__law_pick : AL} {asp__law_values : AL} (cg__law_list : Cg P w K mg base CX0 n "_law_list" (cSp K asp__law_list)) (cg__law_draw : Cg P w K mg base CX0 n "_law_draw" (cSp K asp__law_draw)) (cg__law_pick : Cg P w K mg base CX0 n "_law_pick" (cSp K asp__law_pick)) (cg__law_values : Cg P w K mg base CX0 n "_law_values" (cSp K asp__law_values)) {f : Addr} {cdv : Value} {A : Around} {outer : List Env} {s : Shared} {H : Hp} {E : XK} (hgd : (A.deeper (envOfC "_law_heard" (defScope st__law_heard) s.heap.objs.size f cdv)).guards = some []) (hr : Room (n + 0) (A.deeper (envOfC "_law_heard" (defScope st__law_heard) s.heap.objs.size f cdv))) :
    {t : TS // PSs (cxOf CX0 P w K mg base ["_law_deck_here", "_law_limit", "_law_length", "_law_bound", "_law_hidden", "_law_at", "_law_few", "_law_second", "_law_third", "_law_found", "_law_places", "_law_place", "_law_some", "_law_number", "_law_k"] "_law_heard" (defScope st__law_heard) f cdv A outer s H E).nox (defBody st__law_heard) t} := ⟨_, (pss_cons (ps_set (i := 4) sc__law_heard.nd rfl (Or.inr rfl) (pe_cg cg__law_list hgd hr (Nat.le_add_right n _) (by rfl) pass0 (pa_cons (pv 0) (pa_cons (pv 1) (pa_cons (pe_tupF pa_nil) (pa_cons (pv 2) pa_nil))))))
    (pss_cons (ps_par (i := 5) (j := 6) rfl sc__law_heard.nd rfl rfl (by decide) rfl rfl (pa_cons (pe_cg cg__law_draw hgd hr (Nat.le_add_right n _) (by rfl) pass0 (pa_cons (pv 0) (pa_cons (pv 2) pa_nil))) (pa_cons (pe_cmpR oGt (pe_cg cg__law_draw hgd hr (Nat.le_add_right n _) (by rfl) pass0 (pa_cons (pv 0) (pa_cons pe_int pa_nil))) pe_int (by first | exact nomark _ | rfl)) pa_nil)) (by rfl))
    (pss_cons (ps_set (i := 7) sc__law_heard.nd rfl (Or.inl rfl) (pe_cg cg__law_list hgd hr (Nat.le_add_right n _) (by rfl) pass0 (pa_cons (pv 0) (pa_cons (pv 1) (pa_cons (pe_slice (kSlG (K := K)) (pv 4) po_none (po_some (pv 5))) (pa_cons (pv 2) pa_nil))))))
    (pss_cons (ps_set (i := 8) sc__law_heard.nd rfl (Or.inl rfl) (pe_cg cg__law_list hgd hr (Nat.le_add_right n _) (by rfl) pass0 (pa_cons (pv 0) (pa_cons (pv 1) (pa_cons (pe_slice (kSlG (K := K)) (pv 7) po_none (po_some (pe_cg cg__law_draw hgd hr (Nat.le_add_right n _) (by rfl) pass0 (pa_cons (pv 0) (pa_cons (pv 2) pa_nil))))) (pa_cons (pv 2) pa_nil))))))
    (pss_cons (ps_setLc (i := 9) (own := [("_law_number", 13)]) rfl sc__law_heard.nd rfl rfl (sw_true rfl rfl rfl (by decide +kernel)) (pi_range2 (by rfl) T.b_range (pa_cons pe_int (pa_cons (pe_op (kAddB (K := K)) (pv 2) pe_int) pa_nil))) (blkOk_by (N := ["_law_deck_here", "_law_limit", "_law_length", "_law_bound", "_law_hidden", "_law_at", "_law_few", "_law_second", "_law_third", "_law_found", "_law_places", "_law_place", "_law_some", "_law_number", "_law_k"]) (sc := defScope st__law_heard) (by decide +kernel)) (fun _ _ _ _ _ => (pg_name (i := 13) sc__law_heard.nd rfl (Or.inl rfl))) (fun _ _ _ _ _ => pts_nil) (fun _ _ _ _ _ => (pe_slice (kSlG (K := K)) (pv 4) po_none (po_some (pv 13)))))
    (pss_cons (ps_setLc (i := 10) (own := [("_law_k", 14)]) rfl sc__law_heard.nd rfl rfl (sw_true rfl rfl rfl (by decide +kernel)) (pi_range1 (by rfl) T.b_range (pa_cons (pe_cg cg__law_draw hgd hr (Nat.le_add_right n _) (by rfl) pass0 (pa_cons (pv 0) (pa_cons (pe_ix (kIx (K := K)) (pe_lst (pa_cons pe_int (pa_cons (pe_op (kAddB (K := K)) (pv 3) pe_int) pa_nil))) (pe_callTy kInt (by rfl) T.b_int (by decide +kernel) (pa_cons (pv 6) pa_nil)) (fun _ _ => rfl)) pa_nil))) pa_nil)) (blkOk_by (N := ["_law_deck_here", "_law_limit", "_law_length", "_law_bound", "_law_hidden", "_law_at", "_law_few", "_law_second", "_law_third", "_law_found", "_law_places", "_law_place", "_law_some", "_law_number", "_law_k"]) (sc := defScope st__law_heard) (by decide +kernel)) (fun _ _ _ _ _ => (pg_name (i := 14) sc__law_heard.nd rfl (Or.inl rfl))) (fun _ _ _ _ _ => pts_nil) (fun _ _ _ _ _ => (pe_cg cg__law_draw hgd hr (Nat.le_add_right n _) (by rfl) pass0 (pa_cons (pv 0) (pa_cons (pv 2) pa_nil)))))
    (pss_cons (ps_for PassesOwn.never rfl (pi_seqK (K := K) (pv 10)) (pg_name (i := 11) sc__law_heard.nd rfl (Or.inl rfl)) (pss_cons (ps_set (i := 12) sc__law_heard.nd rfl (Or.inl rfl) (pe_lst (pa_cons (pe_slice (kSlG (K := K)) (pv 7) po_none (po_some (pe_op (kAddB (K := K)) (pv 11) pe_int))) (pa_cons (pe_slice (kSlG (K := K)) (pv 8) po_none (po_some (pe_op (kAddB (K := K)) (pv 11) pe_int))) (pa_cons (pe_slice (kSlG (K := K)) (pv 7) po_none (po_some (pe_op (kAddB (K := K)) (pv 11) pe_int))) pa_nil)))))
    (pss_one (ps_asg (pe_cg cg__law_pick hgd hr (Nat.le_add_right n _) (by rfl) pass0 (pa_cons (pv 0) (pa_cons (pe_op (kAddB (K := K)) (pv 12) (pe_lst (pa_cons (pe_cg cg__law_pick hgd hr (Nat.le_add_right n _) (by rfl) pass0 (pa_cons (pv 0) (pa_cons (pe_cg cg__law_values hgd hr (Nat.le_add_right n _) (by rfl) pass0 (pa_cons (pe_slice (kSlG (K := K)) (pv 4) po_none (po_some (pe_op (kAddB (K := K)) (pv 11) pe_int))) (pa_cons (pv 1) pa_nil))) pa_nil))) pa_nil))) pa_nil))) (pg_sub (pv 9) (pv 11) set_list (fun _ => rfl))))))
    (pss_one (ps_ret (pe_tupF (pa_cons (pe_callTy (kTupleF (K := K)) (by rfl) T.b_tuple (by decide +kernel) (pa_cons (pv 9) pa_nil)) (pa_cons (pv 6) pa_nil))))))))))))⟩
def sv__law_heard (hT : Txt K mg D) {asp__law_list : AL} {asp__law_draw : AL} {asp__law_pick : AL} {asp__law_values : AL} : {tf : TS × ATS // SS K tf.1 tf.2} := pk (ss_cons (ss_asg (se_call (g := asp__law_list) (sa_cons (se_var (i := 0)) (sa_cons (se_var (i := 1)) (sa_cons (se_tup sa_nil) (sa_cons (se_var (i := 2)) sa_nil))))) (sg_name (i := 4)))
    (ss_cons (ss_par (i := 5) (j := 6) (sa_cons (se_call (g := asp__law_draw) (sa_cons (se_var (i := 0)) (sa_cons (se_var (i := 2)) sa_nil))) (sa_cons (se_op so_gt (se_call (g := asp__law_draw) (sa_cons (se_var (i := 0)) (sa_cons (se_int (i := 4)) sa_nil))) (se_int (i := 0))) sa_nil)))
    (ss_cons (ss_asg (se_call (g := asp__law_list) (sa_cons (se_var (i := 0)) (sa_cons (se_var (i := 1)) (sa_cons (se_sl sl_any (se_var (i := 4)) sp_no (sp_part (se_var (i := 5)))) (sa_cons (se_var (i := 2)) sa_nil))))) (sg_name (i := 7)))
    (ss_cons (ss_asg (se_call (g := asp__law_list) (sa_cons (se_var (i := 0)) (sa_cons (se_var (i := 1)) (sa_cons (se_sl sl_any (se_var (i := 7)) sp_no (sp_part (se_call (g := asp__law_draw) (sa_cons (se_var (i := 0)) (sa_cons (se_var (i := 2)) sa_nil))))) (sa_cons (se_var (i := 2)) sa_nil))))) (sg_name (i := 8)))
    (ss_cons (ss_asg (se_lcO (vs := [13]) (si_rng2 (sa_cons (se_int (i := 1)) (sa_cons (se_op so_addB (se_var (i := 2)) (se_int (i := 1))) sa_nil))) (sg_name (i := 13)) (by decide) st_yes (se_sl sl_any (se_var (i := 4)) sp_no (sp_part (se_var (i := 13))))) (sg_name (i := 9)))
    (ss_cons (ss_asg (se_lc (vs := [14]) (si_rng1 (sa_cons (se_call (g := asp__law_draw) (sa_cons (se_var (i := 0)) (sa_cons (se_op so_ix (se_lst (sa_cons (se_int (i := 7)) (sa_cons (se_op so_addB (se_var (i := 3)) (se_int (i := 1))) sa_nil))) (se_cb sl_int (sa_cons (se_var (i := 6)) sa_nil))) sa_nil))) sa_nil)) (sg_name (i := 14)) (by decide) st_yes (se_call (g := asp__law_draw) (sa_cons (se_var (i := 0)) (sa_cons (se_var (i := 2)) sa_nil)))) (sg_name (i := 10)))
    (ss_cons (ss_for (si_seq (se_var (i := 10))) (sg_name (i := 11)) (ss_cons (ss_asg (se_lst (sa_cons (se_sl sl_any (se_var (i := 7)) sp_no (sp_part (se_op so_addB (se_var (i := 11)) (se_int (i := 1))))) (sa_cons (se_sl sl_any (se_var (i := 8)) sp_no (sp_part (se_op so_addB (se_var (i := 11)) (se_int (i := 1))))) (sa_cons (se_sl sl_any (se_var (i := 7)) sp_no (sp_part (se_op so_addB (se_var (i := 11)) (se_int (i := 1))))) sa_nil)))) (sg_name (i := 12)))
    (ss_asg (se_call (g := asp__law_pick) (sa_cons (se_var (i := 0)) (sa_cons (se_op so_addB (se_var (i := 12)) (se_lst (sa_cons (se_call (g := asp__law_pick) (sa_cons (se_var (i := 0)) (sa_cons (se_call (g := asp__law_values) (sa_cons (se_sl sl_any (se_var (i := 4)) sp_no (sp_part (se_op so_addB (se_var (i := 11)) (se_int (i := 1))))) (sa_cons (se_var (i := 1)) sa_nil))) sa_nil))) sa_nil))) sa_nil))) (sg_sub (se_var (i := 9)) (se_var (i := 11))))))
    (ss_ret (se_tup (sa_cons (se_cb sl_tuple (sa_cons (se_var (i := 9)) sa_nil)) (sa_cons (se_var (i := 6)) sa_nil)))))))))))
theorem oa__law_heard {n : Nat} (T : Txt K mg D) {asp__law_list : AL} {asp__law_draw : AL} {asp__law_pick : AL} {asp__law_values : AL} (cg__law_list : Cg P w K mg base CX0 n "_law_list" (cSp K asp__law_list)) (cg__law_draw : Cg P w K mg base CX0 n "_law_draw" (cSp K asp__law_draw)) (cg__law_pick : Cg P w K mg base CX0 n "_law_pick" (cSp K asp__law_pick)) (cg__law_values : Cg P w K mg base CX0 n "_law_values" (cSp K asp__law_values)) {f : Addr} {fd : FuncData} (F : Fun K "_law_heard" "_law_heard" st__law_heard f fd) {asp : AL} (hlen : ∀ vs S R, asp vs S R → vs.length = 4)
    (h : ∀ vs S R, asp vs S R → (sv__law_heard T (asp__law_list := asp__law_list) (asp__law_draw := asp__law_draw) (asp__law_pick := asp__law_pick) (asp__law_values := asp__law_values)).1.2 { nx := fun _ S => R .non S, rt := R } (startA ["_law_deck_here", "_law_limit", "_law_length", "_law_bound", "_law_hidden", "_law_at", "_law_few", "_law_second", "_law_third", "_law_found", "_law_places", "_law_place", "_law_some", "_law_number", "_law_k"] vs) S) : FnG P w K mg base CX0 (n + 1) f fd ["_law_deck_here", "_law_limit", "_law_length", "_law_bound"] (cSp K asp) :=
  okA F sc__law_heard (fun cdv A outer s H E hgd hr => (dv__law_heard T cg__law_list cg__law_draw cg__law_pick cg__law_values hgd hr).2) (sv__law_heard T (asp__law_list := asp__law_list) (asp__law_draw := asp__law_draw) (asp__law_pick := asp__law_pick) (asp__law_values := asp__law_values)).2 (by decide) hlen h
noncomputable def dv__law_is_list {n : Nat} (T : Txt K mg D) {f : Addr} {cdv : Value} {A : Around} {outer : List Env} {s : Shared} {H : Hp} {E : XK} (hgd : (A.deeper (envOfC "_law_is_list" (defScope st__law_is_list) s.heap.objs.size f cdv)).guards = some []) (hr : Room (n + 0) (A.deeper (envOfC "_law_is_list" (defScope st__law_is_list) s.heap.objs.size f cdv))) :
    {t : TS // PSs (cxOf CX0 P w K mg base ["_law_thing", "_law_length", "_law_limit", "_law_odd", "_law_one"] "_law_is_list" (defScope st__law_is_list) f cdv A outer s H E).nox (defBody st__law_is_list) t} := ⟨_, (pss_cons (ps_if (PW.pt (pw_or (pt_not (pt_truthK (K := K) (pe_callB (kIsi (K := K)) (by rfl) T.b_isinstance (by decide +kernel) (pa_cons (pv 0) (pa_cons (pe_bltn (v := .ty "tuple") (by rfl) T.b_tuple (by decide +kernel) rfl) pa_nil))) (fun _ => rfl))) (pw_or1 (pt_cmpR (kNe (K := K) hr) (pe_callB (kLen (K := K)) (by rfl) T.b_len (by decide +kernel) (pa_cons (pv 0) pa_nil)) (pv 1) (by first | exact nomark _ | rfl))))) (pss_one (ps_ret pe_bl)) pss_nil)
    (pss_cons (ps_setLc (i := 3) (own := [("_law_one", 4)]) rfl sc__law_is_list.nd rfl rfl (sw_true rfl rfl rfl (by decide +kernel)) (pi_seqK (K := K) (pv 0)) (blkOk_by (N := ["_law_thing", "_law_length", "_law_limit", "_law_odd", "_law_one"]) (sc := defScope st__law_is_list) (by decide +kernel)) (fun _ _ _ _ _ => (pg_name (i := 4) sc__law_is_list.nd rfl (Or.inl rfl))) (fun _ _ _ _ _ => (pts_one (PW.pt (pw_or (pt_not (pt_truthK (K := K) (pe_callB (kIsi (K := K)) (by rfl) T.b_isinstance (by decide +kernel) (pa_cons (pv 4) (pa_cons (pe_bltn (v := .ty "int") (by rfl) T.b_int (by decide +kernel) rfl) pa_nil))) (fun _ => rfl))) (pw_or1 (pt_truthK (K := K) (pe_callB (kIsi (K := K)) (by rfl) T.b_isinstance (by decide +kernel) (pa_cons (pv 4) (pa_cons (pe_bltn (v := .ty "bool") (by rfl) T.b_bool (by decide +kernel) rfl) pa_nil))) (fun _ => rfl))))))) (fun _ _ _ _ _ => (pv 4)))
    (pss_one (ps_ret (pe_and (pe_cmpR (kEqNil (K := K) hr) (pv 3) (pe_lst pa_nil) (by first | exact nomark _ | rfl)) (pe_one (pe_cmpR (kEqNil (K := K) hr) (pe_lc (own := [("_law_one", 4)]) rfl sc__law_is_list.nd (pi_seqK (K := K) (pv 0)) (blkOk_by (N := ["_law_thing", "_law_length", "_law_limit", "_law_odd", "_law_one"]) (sc := defScope st__law_is_list) (by decide +kernel)) (fun _ _ _ _ _ => (pg_name (i := 4) sc__law_is_list.nd rfl (Or.inl rfl))) (fun _ _ _ _ _ => (pts_one (pt_not (pt_chain oLe oLt pe_int (pv 4) (pv 2))))) (fun _ _ _ _ _ => (pv 4))) (pe_lst pa_nil) (by first | exact nomark _ | rfl))))))))⟩
def sv__law_is_list (hT : Txt K mg D) : {tf : TS × ATS // SS K tf.1 tf.2} := pk (ss_cons (ss_if (st_or (st_not (st_truth (se_isB (n := .tup) (se_var (i := 0))))) (st_test (se_op so_ne (se_cb sl_len (sa_cons (se_var (i := 0)) sa_nil)) (se_var (i := 1))))) (ss_ret (se_bl (i := false))) ss_nil)
    (ss_cons (ss_asg (se_lc (vs := [4]) (si_seq (se_var (i := 0))) (sg_name (i := 4)) (by decide) (st_or (st_not (st_truth (se_isB (n := .int) (se_var (i := 4))))) (st_truth (se_isB (n := .bl) (se_var (i := 4))))) (se_var (i := 4))) (sg_name (i := 3)))
    (ss_ret (se_andV (se_op so_eqNil (se_var (i := 3)) (se_lst sa_nil)) (se_op so_eqNil (se_lc (vs := [4]) (si_seq (se_var (i := 0))) (sg_name (i := 4)) (by decide) (st_not (st_test (se_chain so_le so_lt (se_int (i := 0)) (se_var (i := 4)) (se_var (i := 2))))) (se_var (i := 4))) (se_lst sa_nil))))))
theorem oa__law_is_list {n : Nat} (T : Txt K mg D) {f : Addr} {fd : FuncData} (F : Fun K "_law_is_list" "_law_is_list" st__law_is_list f fd) {asp : AL} (hlen : ∀ vs S R, asp vs S R → vs.length = 3)
    (h : ∀ vs S R, asp vs S R → (sv__law_is_list T).1.2 { nx := fun _ S => R .non S, rt := R } (startA ["_law_thing", "_law_length", "_law_limit", "_law_odd", "_law_one"] vs) S) : FnG P w K mg base CX0 (n + 1) f fd ["_law_thing", "_law_length", "_law_limit"] (cSp K asp) :=
  okA F sc__law_is_list (fun cdv A outer s H E hgd hr => (dv__law_is_list T hgd hr).2) (sv__law_is_list T).2 (by decide) hlen h
noncomputable def dv__law_due {n : Nat} (T : Txt K mg D) {asp__law_is_list : AL} (cg__law_is_list : Cg P w K mg base CX0 n "_law_is_list" (cSp K asp__law_is_list)) {f : Addr} {cdv : Value} {A : Around} {outer : List Env} {s : Shared} {H : Hp} {E : XK} (hgd : (A.deeper (envOfC "_law_due" (defScope st__law_due) s.heap.objs.size f cdv)).guards = some []) (hr : Room (n + 0) (A.deeper (envOfC "_law_due" (defScope st__law_due) s.heap.objs.size f cdv))) :
    {t : TS // PSs (cxOf CX0 P w K mg base ["_law_heard_here", "_law_limit", "_law_bound", "_law_length", "_law_best", "_law_known", "_law_start", "_law_symbols", "_law_count", "_law_k", "_law_letter"] "_law_due" (defScope st__law_due) f cdv A outer s H E).nox (defBody st__law_due) t} := ⟨_, (pss_cons (ps_par (i := 3) (j := 4) rfl sc__law_due.nd rfl rfl (by decide) rfl rfl (pa_cons (pe_callB (kLen (K := K)) (by rfl) T.b_len (by decide +kernel) (pa_cons (pv 0) pa_nil)) (pa_cons pe_non pa_nil)) (by rfl))
    (pss_cons (ps_setLc (i := 5) (own := [("_law_k", 9), ("_law_letter", 10)]) rfl sc__law_due.nd rfl rfl (sw_true rfl rfl rfl (by decide +kernel)) (pi_enumK (K := K) (by rfl) T.b_enumerate (pa_cons (pv 0) pa_nil)) (blkOk_by (N := ["_law_heard_here", "_law_limit", "_law_bound", "_law_length", "_law_best", "_law_known", "_law_start", "_law_symbols", "_law_count", "_law_k", "_law_letter"]) (sc := defScope st__law_due) (by decide +kernel)) (fun _ _ _ _ _ => (tupUK (K := K) (pg_tupU (n := 2) rfl (pgs_cons (pg_name (i := 9) sc__law_due.nd rfl (Or.inl rfl)) (pgs_cons (pg_name (i := 10) sc__law_due.nd rfl (Or.inl rfl)) pgs_nil))))) (fun _ _ _ _ _ => pts_nil) (fun _ _ _ _ _ => (pe_join (pe_ifExp (pt_truthK (K := K) (pe_cg cg__law_is_list hgd hr (Nat.le_add_right n _) (by rfl) pass0 (pa_cons (pv 10) (pa_cons (pe_op (kAddB (K := K)) (pv 9) pe_int) (pa_cons (pv 1) pa_nil)))) (fun _ => rfl)) (pv 10) pe_non))))
    (pss_cons (ps_for PassesOwn.never rfl (pi_seqK (K := K) (pe_op (kAddB (K := K)) (pe_lst (pa_cons (pe_tupF pa_nil) pa_nil)) (pe_lc (own := [("_law_letter", 10)]) rfl sc__law_due.nd (pi_seqK (K := K) (pv 5)) (blkOk_by (N := ["_law_heard_here", "_law_limit", "_law_bound", "_law_length", "_law_best", "_law_known", "_law_start", "_law_symbols", "_law_count", "_law_k", "_law_letter"]) (sc := defScope st__law_due) (by decide +kernel)) (fun _ _ _ _ _ => (pg_name (i := 10) sc__law_due.nd rfl (Or.inl rfl))) (fun _ _ _ _ _ => (pts_one (pt_cmpR oIsNot (pv 10) pe_non (by first | exact nomark _ | rfl)))) (fun _ _ _ _ _ => (pv 10))))) (pg_name (i := 6) sc__law_due.nd rfl (Or.inl rfl)) (pss_cons (ps_set (i := 7) sc__law_due.nd rfl (Or.inr rfl) (pe_op (kAddB (K := K)) (pv 6) (pe_op (kMulG (K := K)) (pe_tupF (pa_cons pe_int pa_nil)) (pe_op kSubB (pv 3) (pe_callB (kLen (K := K)) (by rfl) T.b_len (by decide +kernel) (pa_cons (pv 6) pa_nil))))))
    (pss_cons (ps_set (i := 8) sc__law_due.nd rfl (Or.inl rfl) (pe_callB (kLen (K := K)) (by rfl) T.b_len (by decide +kernel) (pa_cons (pe_lc (own := [("_law_k", 9), ("_law_letter", 10)]) rfl sc__law_due.nd (pi_enumK (K := K) (by rfl) T.b_enumerate (pa_cons (pv 5) pa_nil)) (blkOk_by (N := ["_law_heard_here", "_law_limit", "_law_bound", "_law_length", "_law_best", "_law_known", "_law_start", "_law_symbols", "_law_count", "_law_k", "_law_letter"]) (sc := defScope st__law_due) (by decide +kernel)) (fun _ _ _ _ _ => (tupUK (K := K) (pg_tupU (n := 2) rfl (pgs_cons (pg_name (i := 9) sc__law_due.nd rfl (Or.inl rfl)) (pgs_cons (pg_name (i := 10) sc__law_due.nd rfl (Or.inl rfl)) pgs_nil))))) (fun _ _ _ _ _ => (pts_one (pt_cmpR (kNe (K := K) hr) (pv 10) (pe_slice (kSlG (K := K)) (pv 7) po_none (po_some (pe_op (kAddB (K := K)) (pv 9) pe_int))) (by first | exact nomark _ | rfl)))) (fun _ _ _ _ _ => pe_int)) pa_nil)))
    (pss_one (ps_if (PW.pt (pw_or (pt_cmpR oIs (pv 4) pe_non (by first | exact nomark _ | rfl)) (pw_or1 (pt_cmpR (kLtD (K := K) hr) (pe_tupF (pa_cons (pv 8) (pa_cons (pv 7) pa_nil))) (pv 4) (by first | exact nomark _ | rfl))))) (pss_one (ps_set (i := 4) sc__law_due.nd rfl (Or.inl rfl) (pe_tupF (pa_cons (pv 8) (pa_cons (pv 7) pa_nil))))) pss_nil)))))
    (pss_one (ps_ret (pe_ifExp (pt_cmpR oLe (pe_ix (kIx (K := K)) (pv 4) pe_int (fun _ _ => rfl)) (pv 2) (by first | exact nomark _ | rfl)) (pe_ix (kIx (K := K)) (pv 4) pe_int (fun _ _ => rfl)) pe_non))))))⟩
def sv__law_due (hT : Txt K mg D) {asp__law_is_list : AL} : {tf : TS × ATS // SS K tf.1 tf.2} := pk (ss_cons (ss_par (i := 3) (j := 4) (sa_cons (se_cb sl_len (sa_cons (se_var (i := 0)) sa_nil)) (sa_cons se_non sa_nil)))
    (ss_cons (ss_asg (se_lc (vs := [9, 10]) (si_enum (sa_cons (se_var (i := 0)) sa_nil)) (sg_tupU (n := 2) (sgs_cons (sg_name (i := 9)) (sgs_cons (sg_name (i := 10)) sgs_nil))) (by decide) st_yes (se_join (se_if (st_truth (se_call (g := asp__law_is_list) (sa_cons (se_var (i := 10)) (sa_cons (se_op so_addB (se_var (i := 9)) (se_int (i := 1))) (sa_cons (se_var (i := 1)) sa_nil))))) (se_var (i := 10)) se_non))) (sg_name (i := 5)))
    (ss_cons (ss_for (si_seq (se_op so_addB (se_lst (sa_cons (se_tup sa_nil) sa_nil)) (se_lc (vs := [10]) (si_seq (se_var (i := 5))) (sg_name (i := 10)) (by decide) (st_test (se_op so_isNot (se_var (i := 10)) se_non)) (se_var (i := 10))))) (sg_name (i := 6)) (ss_cons (ss_asg (se_op so_addB (se_var (i := 6)) (se_op so_mul (se_tup (sa_cons (se_int (i := 0)) sa_nil)) (se_op so_subB (se_var (i := 3)) (se_cb sl_len (sa_cons (se_var (i := 6)) sa_nil))))) (sg_name (i := 7)))
    (ss_cons (ss_asg (se_cb sl_len (sa_cons (se_lc (vs := [9, 10]) (si_enum (sa_cons (se_var (i := 5)) sa_nil)) (sg_tupU (n := 2) (sgs_cons (sg_name (i := 9)) (sgs_cons (sg_name (i := 10)) sgs_nil))) (by decide) (st_test (se_op so_ne (se_var (i := 10)) (se_sl sl_any (se_var (i := 7)) sp_no (sp_part (se_op so_addB (se_var (i := 9)) (se_int (i := 1))))))) (se_int (i := 1))) sa_nil)) (sg_name (i := 8)))
    (ss_if (st_or (st_test (se_op so_is (se_var (i := 4)) se_non)) (st_test (se_op so_ltP (se_tup (sa_cons (se_var (i := 8)) (sa_cons (se_var (i := 7)) sa_nil))) (se_var (i := 4))))) (ss_asg (se_tup (sa_cons (se_var (i := 8)) (sa_cons (se_var (i := 7)) sa_nil))) (sg_name (i := 4))) ss_nil))))
    (ss_ret (se_if (st_test (se_op so_le (se_op so_ix (se_var (i := 4)) (se_int (i := 0))) (se_var (i := 2)))) (se_op so_ix (se_var (i := 4)) (se_int (i := 1))) se_non)))))
theorem oa__law_due {n : Nat} (T : Txt K mg D) {asp__law_is_list : AL} (cg__law_is_list : Cg P w K mg base CX0 n "_law_is_list" (cSp K asp__law_is_list)) {f : Addr} {fd : FuncData} (F : Fun K "_law_due" "_law_due" st__law_due f fd) {asp : AL} (hlen : ∀ vs S R, asp vs S R → vs.length = 3)
    (h : ∀ vs S R, asp vs S R → (sv__law_due T (asp__law_is_list := asp__law_is_list)).1.2 { nx := fun _ S => R .non S, rt := R } (startA ["_law_heard_here", "_law_limit", "_law_bound", "_law_length", "_law_best", "_law_known", "_law_start", "_law_symbols", "_law_count", "_law_k", "_law_letter"] vs) S) : FnG P w K mg base CX0 (n + 1) f fd ["_law_heard_here", "_law_limit", "_law_bound"] (cSp K asp) :=
  okA F sc__law_due (fun cdv A outer s H E hgd hr => (dv__law_due T cg__law_is_list hgd hr).2) (sv__law_due T (asp__law_is_list := asp__law_is_list)).2 (by decide) hlen h
noncomputable def dv_ListSearch___init__ {n : Nat} (T : Txt K mg D) {f : Addr} {cdv : Value} {A : Around} {outer : List Env} {s : Shared} {H : Hp} {E : XK} (hgd : (A.deeper (envOfC "ListSearch.__init__" (defScope st_ListSearch___init__) s.heap.objs.size f cdv)).guards = some []) (hr : Room (n + 0) (A.deeper (envOfC "ListSearch.__init__" (defScope st_ListSearch___init__) s.heap.objs.size f cdv))) :
    {t : TS // PSs (cxOf CX0 P w K mg base ["self", "known", "width", "start", "other"] "ListSearch.__init__" (defScope st_ListSearch___init__) f cdv A outer s H E).nox (defBody st_ListSearch___init__) t} := ⟨_, (pss_cons (ps_fld (pv 0) (pv 1) rfl)
    (pss_cons (ps_fld (pv 0) (pv 2) rfl)
    (pss_cons (ps_fld (pv 0) (pv 3) rfl)
    (pss_cons (ps_fld (pv 0) (pv 4) rfl)
    (pss_cons (ps_fld (pv 0) pe_dnewK rfl)
    (pss_one (ps_fld (pv 0) pe_non rfl)))))))⟩
def sv_ListSearch___init__ (hT : Txt K mg D) : {tf : TS × ATS // SS K tf.1 tf.2} := pk (ss_cons (ss_fld (g := "lists_known") (i := 0) (se_var (i := 0)) (se_var (i := 1)))
    (ss_cons (ss_fld (g := "width_allowed") (i := 1) (se_var (i := 0)) (se_var (i := 2)))
    (ss_cons (ss_fld (g := "start_wanted") (i := 2) (se_var (i := 0)) (se_var (i := 3)))
    (ss_cons (ss_fld (g := "other_unwanted") (i := 3) (se_var (i := 0)) (se_var (i := 4)))
    (ss_cons (ss_fld (g := "rounds_fixed") (i := 4) (se_var (i := 0)) se_newD)
    (ss_fld (g := "best_found") (i := 5) (se_var (i := 0)) se_non))))))
theorem oa_ListSearch___init__ {n : Nat} (T : Txt K mg D) {f : Addr} {fd : FuncData} (F : Fun K "__init__" "ListSearch.__init__" st_ListSearch___init__ f fd) {asp : AL} (hlen : ∀ vs S R, asp vs S R → vs.length = 5)
    (h : ∀ vs S R, asp vs S R → (sv_ListSearch___init__ T).1.2 { nx := fun _ S => R .non S, rt := R } (startA ["self", "known", "width", "start", "other"] vs) S) : FnG P w K mg base CX0 (n + 1) f fd ["self", "known", "width", "start", "other"] (cSp K asp) :=
  okA F sc_ListSearch___init__ (fun cdv A outer s H E hgd hr => (dv_ListSearch___init__ T hgd hr).2) (sv_ListSearch___init__ T).2 (by decide) hlen h
noncomputable def dv_next_symbols {n : Nat} (T : Txt K mg D) {f : Addr} {cdv : Value} {A : Around} {outer : List Env} {s : Shared} {H : Hp} {E : XK} (hgd : (A.deeper (envOfC "next_symbols" (defScope st_next_symbols) s.heap.objs.size f cdv)).guards = some []) (hr : Room (n + 0) (A.deeper (envOfC "next_symbols" (defScope st_next_symbols) s.heap.objs.size f cdv))) :
    {t : TS // PSs (cxOf CX0 P w K mg base ["known", "symbols", "at", "one"] "next_symbols" (defScope st_next_symbols) f cdv A outer s H E).nox (defBody st_next_symbols) t} := ⟨_, (pss_cons (ps_set (i := 2) sc_next_symbols.nd rfl (Or.inr rfl) (pe_callB (kLen (K := K)) (by rfl) T.b_len (by decide +kernel) (pa_cons (pv 1) pa_nil)))
    (pss_one (ps_ret (pe_callB (kSortedSet (w := w) rfl) (by rfl) T.b_sorted (by decide +kernel) (pa_cons (pe_scIw (w := w) (pe_scI (own := [("one", 3)]) rfl sc_next_symbols.nd (pi_seqK (K := K) (pe_slice (kSlG (K := K)) (pv 0) (po_some (pv 2)) po_none)) (blkOk_by (N := ["known", "symbols", "at", "one"]) (sc := defScope st_next_symbols) (by decide +kernel)) (fun _ _ _ _ _ => (pg_name (i := 3) sc_next_symbols.nd rfl (Or.inl rfl))) (fun _ _ _ _ _ => (pts_one (PW.pt (pw_and (pt_cmpR oIsNot (pv 3) pe_non (by first | exact nomark _ | rfl)) (pw_and1 (pt_cmpR (kEqB (K := K) hr) (pe_slice (kSlG (K := K)) (pv 3) po_none (po_some (pv 2))) (pv 1) (by first | exact nomark _ | rfl))))))) (fun _ _ _ _ _ => (pe_ix (kIx (K := K)) (pv 3) (pv 2) (fun _ _ => rfl))))) pa_nil)))))⟩
def sv_next_symbols (hT : Txt K mg D) : {tf : TS × ATS // SS K tf.1 tf.2} := pk (ss_cons (ss_asg (se_cb sl_len (sa_cons (se_var (i := 1)) sa_nil)) (sg_name (i := 2)))
    (ss_ret (se_sortScO (w := w) (vs := [3]) (si_seq (se_sl sl_any (se_var (i := 0)) (sp_part (se_var (i := 2))) sp_no)) (sg_name (i := 3)) (by decide) (st_and (st_test (se_op so_isNot (se_var (i := 3)) se_non)) (st_test (se_op so_eqB (se_sl sl_any (se_var (i := 3)) sp_no (sp_part (se_var (i := 2)))) (se_var (i := 1))))) (se_op so_ix (se_var (i := 3)) (se_var (i := 2))))))
theorem oa_next_symbols {n : Nat} (T : Txt K mg D) {f : Addr} {fd : FuncData} (F : Fun K "next_symbols" "next_symbols" st_next_symbols f fd) {asp : AL} (hlen : ∀ vs S R, asp vs S R → vs.length = 2)
    (h : ∀ vs S R, asp vs S R → (sv_next_symbols T (w := w)).1.2 { nx := fun _ S => R .non S, rt := R } (startA ["known", "symbols", "at", "one"] vs) S) : FnG P w K mg base CX0 (n + 1) f fd ["known", "symbols"] (cSp K asp) :=
  okA F sc_next_symbols (fun cdv A outer s H E hgd hr => (dv_next_symbols T hgd hr).2) (sv_next_symbols T (w := w)).2 (by decide) hlen h
noncomputable def dv_ListSearch_candidates {n : Nat} (T : Txt K mg D) {asp_next_symbols : AL} (cg_next_symbols : Cg P w K mg base CX0 n "next_symbols" (cSp K asp_next_symbols)) {f : Addr} {cdv : Value} {A : Around} {outer : List Env} {s : Shared} {H : Hp} {E : XK} (hgd : (A.deeper (envOfC "ListSearch.candidates" (defScope st_ListSearch_candidates) s.heap.objs.size f cdv)).guards = some []) (hr : Room (n + 0) (A.deeper (envOfC "ListSearch.candidates" (defScope st_ListSearch_candidates) s.heap.objs.size f cdv))) :
    {t : TS // PSs (cxOf CX0 P w K mg base ["self", "symbols", "at", "unwanted", "found", "least", "symbol"] "ListSearch.candidates" (defScope st_ListSearch_candidates) f cdv A outer s H E).nox (defBody st_ListSearch_candidates) t} := ⟨_, (pss_cons (ps_set (i := 2) sc_ListSearch_candidates.nd rfl (Or.inl rfl) (pe_callB (kLen (K := K)) (by rfl) T.b_len (by decide +kernel) (pa_cons (pv 1) pa_nil)))
    (pss_cons (ps_if (pt_cmpR oLt (pv 2) (pe_callB (kLen (K := K)) (by rfl) T.b_len (by decide +kernel) (pa_cons (fldK (K := K) (pe_fld (pv 0) rfl)) pa_nil)) (by first | exact nomark _ | rfl)) (pss_one (ps_ret (pe_lst (pa_cons (pe_ix (kIx (K := K)) (fldK (K := K) (pe_fld (pv 0) rfl)) (pv 2) (fun _ _ => rfl)) pa_nil)))) pss_nil)
    (pss_cons (ps_set (i := 3) sc_ListSearch_candidates.nd rfl (Or.inr rfl) (pe_join (pe_ifExp (pt_cmpR (kEqB (K := K) hr) (pv 2) (pe_callB (kLen (K := K)) (by rfl) T.b_len (by decide +kernel) (pa_cons (fldK (K := K) (pe_fld (pv 0) rfl)) pa_nil)) (by first | exact nomark _ | rfl)) (fldK (K := K) (pe_fld (pv 0) rfl)) pe_non)))
    (pss_cons (ps_set (i := 4) sc_ListSearch_candidates.nd rfl (Or.inl rfl) (pe_cg cg_next_symbols hgd hr (Nat.le_add_right n _) (by rfl) pass0 (pa_cons (fldK (K := K) (pe_fld (pv 0) rfl)) (pa_cons (pv 1) pa_nil))))
    (pss_cons (ps_set (i := 5) sc_ListSearch_candidates.nd rfl (Or.inl rfl) pe_int)
    (pss_cons (ps_while PassesOwn.never (PW.pt (pw_or (pt_cmpR (kIn (K := K) hr) (pv 5) (pv 4) (by first | exact nomark _ | rfl)) (pw_or1 (pt_cmpR (kEqB (K := K) hr) (pv 5) (pv 3) (by first | exact nomark _ | rfl))))) (pss_one (ps_aug (i := 5) sc_ListSearch_candidates.nd rfl (Or.inl rfl) pe_int ipAdd)))
    (pss_join (ps_if (pt_cmpR oLt (pv 5) (fldK (K := K) (pe_fld (pv 0) rfl)) (by first | exact nomark _ | rfl)) (pss_one (ps_expr (bmK (K := K) (pe_bm PySem.F.plainAttrs_list PySem.F.slot_list_append PySem.F.type_list_append mt_append (pv 4) (pa_cons (pv 5) pa_nil))))) pss_nil)
    (pss_one (ps_ret (pe_callB (kSortedLI (K := K)) (by rfl) T.b_sorted (by decide +kernel) (pa_cons (pe_lc (own := [("symbol", 6)]) rfl sc_ListSearch_candidates.nd (pi_seqK (K := K) (pv 4)) (blkOk_by (N := ["self", "symbols", "at", "unwanted", "found", "least", "symbol"]) (sc := defScope st_ListSearch_candidates) (by decide +kernel)) (fun _ _ _ _ _ => (pg_name (i := 6) sc_ListSearch_candidates.nd rfl (Or.inl rfl))) (fun _ _ _ _ _ => (pts_one (pt_cmpR (kNe (K := K) hr) (pv 6) (pv 3) (by first | exact nomark _ | rfl)))) (fun _ _ _ _ _ => (pv 6))) pa_nil)))))))))))⟩
def sv_ListSearch_candidates (hT : Txt K mg D) {asp_next_symbols : AL} : {tf : TS × ATS // SS K tf.1 tf.2} := pk (ss_cons (ss_asg (se_cb sl_len (sa_cons (se_var (i := 1)) sa_nil)) (sg_name (i := 2)))
    (ss_cons (ss_if (st_test (se_op so_lt (se_var (i := 2)) (se_cb sl_len (sa_cons (se_fld (g := "start_wanted") (i := 2) (se_var (i := 0))) sa_nil)))) (ss_ret (se_lst (sa_cons (se_op so_ix (se_fld (g := "start_wanted") (i := 2) (se_var (i := 0))) (se_var (i := 2))) sa_nil))) ss_nil)
    (ss_cons (ss_asg (se_join (se_if (st_test (se_op so_eqB (se_var (i := 2)) (se_cb sl_len (sa_cons (se_fld (g := "start_wanted") (i := 2) (se_var (i := 0))) sa_nil)))) (se_fld (g := "other_unwanted") (i := 3) (se_var (i := 0))) se_non)) (sg_name (i := 3)))
    (ss_cons (ss_asg (se_call (g := asp_next_symbols) (sa_cons (se_fld (g := "lists_known") (i := 0) (se_var (i := 0))) (sa_cons (se_var (i := 1)) sa_nil))) (sg_name (i := 4)))
    (ss_cons (ss_asg (se_int (i := 0)) (sg_name (i := 5)))
    (ss_cons (ss_while (st_or (st_test (se_op so_in (se_var (i := 5)) (se_var (i := 4)))) (st_test (se_op so_eqB (se_var (i := 5)) (se_var (i := 3))))) (ss_aug (i := 5) (se_int (i := 1)) so_addI))
    (ss_join (ss_if (st_test (se_op so_lt (se_var (i := 5)) (se_fld (g := "width_allowed") (i := 1) (se_var (i := 0))))) (ss_expr (se_bm sm_append (se_var (i := 4)) (sa_cons (se_var (i := 5)) sa_nil))) ss_nil)
    (ss_ret (se_cb sl_sortedLI (sa_cons (se_lc (vs := [6]) (si_seq (se_var (i := 4))) (sg_name (i := 6)) (by decide) (st_test (se_op so_ne (se_var (i := 6)) (se_var (i := 3)))) (se_var (i := 6))) sa_nil))))))))))
theorem oa_ListSearch_candidates {n : Nat} (T : Txt K mg D) {asp_next_symbols : AL} (cg_next_symbols : Cg P w K mg base CX0 n "next_symbols" (cSp K asp_next_symbols)) {f : Addr} {fd : FuncData} (F : Fun K "candidates" "ListSearch.candidates" st_ListSearch_candidates f fd) {asp : AL} (hlen : ∀ vs S R, asp vs S R → vs.length = 2)
    (h : ∀ vs S R, asp vs S R → (sv_ListSearch_candidates T (asp_next_symbols := asp_next_symbols)).1.2 { nx := fun _ S => R .non S, rt := R } (startA ["self", "symbols", "at", "unwanted", "found", "least", "symbol"] vs) S) : FnG P w K mg base CX0 (n + 1) f fd ["self", "symbols"] (cSp K asp) :=
  okA F sc_ListSearch_candidates (fun cdv A outer s H E hgd hr => (dv_ListSearch_candidates T cg_next_symbols hgd hr).2) (sv_ListSearch_candidates T (asp_next_symbols := asp_next_symbols)).2 (by decide) hlen h
noncomputable def dv_ListSearch_is_possible {n : Nat} (T : Txt K mg D) {f : Addr} {cdv : Value} {A : Around} {outer : List Env} {s : Shared} {H : Hp} {E : XK} (hgd : (A.deeper (envOfC "ListSearch.is_possible" (defScope st_ListSearch_is_possible) s.heap.objs.size f cdv)).guards = some []) (hr : Room (n + 0) (A.deeper (envOfC "ListSearch.is_possible" (defScope st_ListSearch_is_possible) s.heap.objs.size f cdv))) :
    {t : TS // PSs (cxOf CX0 P w K mg base ["self", "number", "is_same"] "ListSearch.is_possible" (defScope st_ListSearch_is_possible) f cdv A outer s H E).nox (defBody st_ListSearch_is_possible) t} := ⟨_, (pss_one (ps_ret (pe_cmpR (kNotIn (K := K) hr) (pe_not (pv 2)) (pe_dget2 (room_1 hr) (fldK (K := K) (pe_fld (pv 0) rfl)) (pv 1) (pe_tupF pa_nil) ⟨rfl, rfl, rfl, rfl⟩) (by first | exact nomark _ | rfl))))⟩
def sv_ListSearch_is_possible (hT : Txt K mg D) : {tf : TS × ATS // SS K tf.1 tf.2} := pk (ss_ret (se_op so_notInNil (se_notV (se_var (i := 2))) (se_dget2 (se_fld (g := "rounds_fixed") (i := 4) (se_var (i := 0))) (se_var (i := 1)) (se_tup sa_nil))))
theorem oa_ListSearch_is_possible {n : Nat} (T : Txt K mg D) {f : Addr} {fd : FuncData} (F : Fun K "is_possible" "ListSearch.is_possible" st_ListSearch_is_possible f fd) {asp : AL} (hlen : ∀ vs S R, asp vs S R → vs.length = 3)
    (h : ∀ vs S R, asp vs S R → (sv_ListSearch_is_possible T).1.2 { nx := fun _ S => R .non S, rt := R } (startA ["self", "number", "is_same"] vs) S) : FnG P w K mg base CX0 (n + 1) f fd ["self", "number", "is_same"] (cSp K asp) :=
  okA F sc_ListSearch_is_possible (fun cdv A outer s H E hgd hr => (dv_ListSearch_is_possible T hgd hr).2) (sv_ListSearch_is_possible T).2 (by decide) hlen h
noncomputable def dv_ListSearch_descend {n : Nat} (T : Txt K mg D) {asp_ListSearch_candidates : AL} {asp_ListSearch_is_possible : AL} {asp_ListSearch_descend : AL} (cm_ListSearch_candidates : Cm P w K mg base CX0 n D.ListSearch "candidates" (cSp K asp_ListSearch_candidates)) (cm_ListSearch_is_possible : Cm P w K mg base CX0 n D.ListSearch "is_possible" (cSp K asp_ListSearch_is_possible)) (cm_ListSearch_descend : Cm P w K mg base CX0 n D.ListSearch "descend" (cSp K asp_ListSearch_descend)) {f : Addr} {cdv : Value} {A : Around} {outer : List Env} {s : Shared} {H : Hp} {E : XK} (hgd : (A.deeper (envOfC "ListSearch.descend" (defScope st_ListSearch_descend) s.heap.objs.size f cdv)).guards = some []) (hr : Room (n + 0) (A.deeper (envOfC "ListSearch.descend" (defScope st_ListSearch_descend) s.heap.objs.size f cdv))) :
    {t : TS // PSs (cxOf CX0 P w K mg base ["self", "symbols", "count", "most", "symbol", "longer", "is_same"] "ListSearch.descend" (defScope st_ListSearch_descend) f cdv A outer s H E).nox (defBody st_ListSearch_descend) t} := ⟨_, (pss_cons (ps_if (PW.pt (pw_or (pt_cmpR oGt (pv 2) (pv 3) (by first | exact nomark _ | rfl)) (pw_or1 (PW.pt (pw_and (pt_cmpR oIsNot (fldK (K := K) (pe_fld (pv 0) rfl)) pe_non (by first | exact nomark _ | rfl)) (pw_and1 (pt_cmpR oGe (pv 2) (pe_ix (kIx (K := K)) (fldK (K := K) (pe_fld (pv 0) rfl)) pe_int (fun _ _ => rfl)) (by first | exact nomark _ | rfl)))))))) (pss_one ps_retN) pss_nil)
    (pss_cons (ps_if (pt_cmpR (kEqB (K := K) hr) (pe_callB (kLen (K := K)) (by rfl) T.b_len (by decide +kernel) (pa_cons (pv 1) pa_nil)) (pe_callB (kLen (K := K)) (by rfl) T.b_len (by decide +kernel) (pa_cons (fldK (K := K) (pe_fld (pv 0) rfl)) pa_nil)) (by first | exact nomark _ | rfl)) (pss_cons (ps_fld (pv 0) (pe_tupF (pa_cons (pv 2) (pa_cons (pv 1) pa_nil))) rfl)
    (pss_one ps_retN)) pss_nil)
    (pss_one (ps_for PassesOwn.never rfl (pi_seqK (K := K) (mdK (K := K) (pe_md (pv 0) (ca_one cm_ListSearch_candidates) hgd hr (Nat.le_add_right n _) pass0 (pa_cons (pv 1) pa_nil)))) (pg_name (i := 4) sc_ListSearch_descend.nd rfl (Or.inl rfl)) (pss_cons (ps_set (i := 5) sc_ListSearch_descend.nd rfl (Or.inl rfl) (pe_op (kAddB (K := K)) (pv 1) (pe_tupF (pa_cons (pv 4) pa_nil))))
    (pss_cons (ps_set (i := 6) sc_ListSearch_descend.nd rfl (Or.inl rfl) (pe_cmpR (kEqB (K := K) hr) (pe_ix (kIx (K := K)) (fldK (K := K) (pe_fld (pv 0) rfl)) (pe_callB (kLen (K := K)) (by rfl) T.b_len (by decide +kernel) (pa_cons (pv 1) pa_nil)) (fun _ _ => rfl)) (pv 5) (by first | exact nomark _ | rfl)))
    (pss_one (ps_if (pt_truthK (K := K) (mdK (K := K) (pe_md (pv 0) (ca_one cm_ListSearch_is_possible) hgd hr (Nat.le_add_right n _) pass0 (pa_cons (pe_callB (kLen (K := K)) (by rfl) T.b_len (by decide +kernel) (pa_cons (pv 5) pa_nil)) (pa_cons (pv 6) pa_nil)))) (fun _ => rfl)) (pss_one (ps_expr (mdK (K := K) (pe_md (pv 0) (ca_one cm_ListSearch_descend) hgd hr (Nat.le_add_right n _) pass0 (pa_cons (pv 5) (pa_cons (pe_op (kAddB (K := K)) (pv 2) (pe_callTy kInt (by rfl) T.b_int (by decide +kernel) (pa_cons (pe_not (pv 6)) pa_nil))) (pa_cons (pv 3) pa_nil))))))) pss_nil))))))))⟩
def sv_ListSearch_descend (hT : Txt K mg D) {asp_ListSearch_candidates : AL} {asp_ListSearch_is_possible : AL} {asp_ListSearch_descend : AL} : {tf : TS × ATS // SS K tf.1 tf.2} := pk (ss_cons (ss_if (st_or (st_test (se_op so_gt (se_var (i := 2)) (se_var (i := 3)))) (st_and (st_test (se_op so_isNot (se_fld (g := "best_found") (i := 5) (se_var (i := 0))) se_non)) (st_test (se_op so_ge (se_var (i := 2)) (se_op so_ix (se_fld (g := "best_found") (i := 5) (se_var (i := 0))) (se_int (i := 0))))))) ss_retN ss_nil)
    (ss_cons (ss_if (st_test (se_op so_eqB (se_cb sl_len (sa_cons (se_var (i := 1)) sa_nil)) (se_cb sl_len (sa_cons (se_fld (g := "lists_known") (i := 0) (se_var (i := 0))) sa_nil)))) (ss_cons (ss_fld (g := "best_found") (i := 5) (se_var (i := 0)) (se_tup (sa_cons (se_var (i := 2)) (sa_cons (se_var (i := 1)) sa_nil))))
    ss_retN) ss_nil)
    (ss_for (si_seq (se_md (m := "candidates") (ca := (fun C g => (C = D.ListSearch ∧ g = asp_ListSearch_candidates))) (se_var (i := 0)) (sa_cons (se_var (i := 1)) sa_nil))) (sg_name (i := 4)) (ss_cons (ss_asg (se_op so_addB (se_var (i := 1)) (se_tup (sa_cons (se_var (i := 4)) sa_nil))) (sg_name (i := 5)))
    (ss_cons (ss_asg (se_op so_eqB (se_op so_ix (se_fld (g := "lists_known") (i := 0) (se_var (i := 0))) (se_cb sl_len (sa_cons (se_var (i := 1)) sa_nil))) (se_var (i := 5))) (sg_name (i := 6)))
    (ss_if (st_truth (se_md (m := "is_possible") (ca := (fun C g => (C = D.ListSearch ∧ g = asp_ListSearch_is_possible))) (se_var (i := 0)) (sa_cons (se_cb sl_len (sa_cons (se_var (i := 5)) sa_nil)) (sa_cons (se_var (i := 6)) sa_nil)))) (ss_expr (se_md (m := "descend") (ca := (fun C g => (C = D.ListSearch ∧ g = asp_ListSearch_descend))) (se_var (i := 0)) (sa_cons (se_var (i := 5)) (sa_cons (se_op so_addB (se_var (i := 2)) (se_cb sl_int (sa_cons (se_notV (se_var (i := 6))) sa_nil))) (sa_cons (se_var (i := 3)) sa_nil))))) ss_nil))))))
theorem oa_ListSearch_descend {n : Nat} (T : Txt K mg D) {asp_ListSearch_candidates : AL} {asp_ListSearch_is_possible : AL} {asp_ListSearch_descend : AL} (cm_ListSearch_candidates : Cm P w K mg base CX0 n D.ListSearch "candidates" (cSp K asp_ListSearch_candidates)) (cm_ListSearch_is_possible : Cm P w K mg base CX0 n D.ListSearch "is_possible" (cSp K asp_ListSearch_is_possible)) (cm_ListSearch_descend : Cm P w K mg base CX0 n D.ListSearch "descend" (cSp K asp_ListSearch_descend)) {f : Addr} {fd : FuncData} (F : Fun K "descend" "ListSearch.descend" st_ListSearch_descend f fd) {asp : AL} (hlen : ∀ vs S R, asp vs S R → vs.length = 4)
    (h : ∀ vs S R, asp vs S R → (sv_ListSearch_descend T (asp_ListSearch_candidates := asp_ListSearch_candidates) (asp_ListSearch_is_possible := asp_ListSearch_is_possible) (asp_ListSearch_descend := asp_ListSearch_descend)).1.2 { nx := fun _ S => R .non S, rt := R } (startA ["self", "symbols", "count", "most", "symbol", "longer", "is_same"] vs) S) : FnG P w K mg base CX0 (n + 1) f fd ["self", "symbols", "count", "most"] (cSp K asp) :=
  okA F sc_ListSearch_descend (fun cdv A outer s H E hgd hr => (dv_ListSearch_descend T cm_ListSearch_candidates cm_ListSearch_is_possible cm_ListSearch_descend hgd hr).2) (sv_ListSearch_descend T (asp_ListSearch_candidates := asp_ListSearch_candidates) (asp_ListSearch_is_possible := asp_ListSearch_is_possible) (asp_ListSearch_descend := asp_ListSearch_descend)).2 (by decide) hlen h
noncomputable def dv_is_integer {n : Nat} (T : Txt K mg D) {f : Addr} {cdv : Value} {A : Around} {outer : List Env} {s : Shared} {H : Hp} {E : XK} (hgd : (A.deeper (envOfC "is_integer" (defScope st_is_integer) s.heap.objs.size f cdv)).guards = some []) (hr : Room (n + 0) (A.deeper (envOfC "is_integer" (defScope st_is_integer) s.heap.objs.size f cdv))) :
    {t : TS // PSs (cxOf CX0 P w K mg base ["thing"] "is_integer" (defScope st_is_integer) f cdv A outer s H E).nox (defBody st_is_integer) t} := ⟨_, (pss_one (ps_ret (pe_and (pe_callB (kIsi (K := K)) (by rfl) T.b_isinstance (by decide +kernel) (pa_cons (pv 0) (pa_cons (pe_bltn (v := .ty "int") (by rfl) T.b_int (by decide +kernel) rfl) pa_nil))) (pe_one (pe_not (pe_callB (kIsi (K := K)) (by rfl) T.b_isinstance (by decide +kernel) (pa_cons (pv 0) (pa_cons (pe_bltn (v := .ty "bool") (by rfl) T.b_bool (by decide +kernel) rfl) pa_nil))))))))⟩
def sv_is_integer (hT : Txt K mg D) : {tf : TS × ATS // SS K tf.1 tf.2} := pk (ss_ret (se_andV (se_isB (n := .int) (se_var (i := 0))) (se_notV (se_isB (n := .bl) (se_var (i := 0))))))
theorem oa_is_integer {n : Nat} (T : Txt K mg D) {f : Addr} {fd : FuncData} (F : Fun K "is_integer" "is_integer" st_is_integer f fd) {asp : AL} (hlen : ∀ vs S R, asp vs S R → vs.length = 1)
    (h : ∀ vs S R, asp vs S R → (sv_is_integer T).1.2 { nx := fun _ S => R .non S, rt := R } (startA ["thing"] vs) S) : FnG P w K mg base CX0 (n + 1) f fd ["thing"] (cSp K asp) :=
  okA F sc_is_integer (fun cdv A outer s H E hgd hr => (dv_is_integer T hgd hr).2) (sv_is_integer T).2 (by decide) hlen h
noncomputable def dv_is_index {n : Nat} (T : Txt K mg D) {asp_is_integer : AL} (cg_is_integer : Cg P w K mg base CX0 n "is_integer" (cSp K asp_is_integer)) {f : Addr} {cdv : Value} {A : Around} {outer : List Env} {s : Shared} {H : Hp} {E : XK} (hgd : (A.deeper (envOfC "is_index" (defScope st_is_index) s.heap.objs.size f cdv)).guards = some []) (hr : Room (n + 0) (A.deeper (envOfC "is_index" (defScope st_is_index) s.heap.objs.size f cdv))) :
    {t : TS // PSs (cxOf CX0 P w K mg base ["thing", "limit"] "is_index" (defScope st_is_index) f cdv A outer s H E).nox (defBody st_is_index) t} := ⟨_, (pss_one (ps_ret (pe_and (pe_cg cg_is_integer hgd hr (Nat.le_add_right n _) (by rfl) pass0 (pa_cons (pv 0) pa_nil)) (pe_one (pe_chain oLe oLt pe_int (pv 0) (pv 1))))))⟩
def sv_is_index (hT : Txt K mg D) {asp_is_integer : AL} : {tf : TS × ATS // SS K tf.1 tf.2} := pk (ss_ret (se_andV (se_call (g := asp_is_integer) (sa_cons (se_var (i := 0)) sa_nil)) (se_chain so_le so_lt (se_int (i := 0)) (se_var (i := 0)) (se_var (i := 1)))))
theorem oa_is_index {n : Nat} (T : Txt K mg D) {asp_is_integer : AL} (cg_is_integer : Cg P w K mg base CX0 n "is_integer" (cSp K asp_is_integer)) {f : Addr} {fd : FuncData} (F : Fun K "is_index" "is_index" st_is_index f fd) {asp : AL} (hlen : ∀ vs S R, asp vs S R → vs.length = 2)
    (h : ∀ vs S R, asp vs S R → (sv_is_index T (asp_is_integer := asp_is_integer)).1.2 { nx := fun _ S => R .non S, rt := R } (startA ["thing", "limit"] vs) S) : FnG P w K mg base CX0 (n + 1) f fd ["thing", "limit"] (cSp K asp) :=
  okA F sc_is_index (fun cdv A outer s H E hgd hr => (dv_is_index T cg_is_integer hgd hr).2) (sv_is_index T (asp_is_integer := asp_is_integer)).2 (by decide) hlen h
noncomputable def dv_is_symbol_list {n : Nat} (T : Txt K mg D) {asp_is_index : AL} (cg_is_index : Cg P w K mg base CX0 n "is_index" (cSp K asp_is_index)) {f : Addr} {cdv : Value} {A : Around} {outer : List Env} {s : Shared} {H : Hp} {E : XK} (hgd : (A.deeper (envOfC "is_symbol_list" (defScope st_is_symbol_list) s.heap.objs.size f cdv)).guards = some []) (hr : Room (n + 0) (A.deeper (envOfC "is_symbol_list" (defScope st_is_symbol_list) s.heap.objs.size f cdv))) :
    {t : TS // PSs (cxOf CX0 P w K mg base ["thing", "length", "width", "symbol"] "is_symbol_list" (defScope st_is_symbol_list) f cdv A outer s H E).nox (defBody st_is_symbol_list) t} := ⟨_, (pss_one (ps_ret (pe_and (pe_callB (kIsi (K := K)) (by rfl) T.b_isinstance (by decide +kernel) (pa_cons (pv 0) (pa_cons (pe_bltn (v := .ty "tuple") (by rfl) T.b_tuple (by decide +kernel) rfl) pa_nil))) (pe_and (pe_cmpR (kEqB (K := K) hr) (pe_callB (kLen (K := K)) (by rfl) T.b_len (by decide +kernel) (pa_cons (pv 0) pa_nil)) (pv 1) (by first | exact nomark _ | rfl)) (pe_one (pe_callB (kAll (K := K) rfl) (by rfl) T.b_all (by decide +kernel) (pa_cons (pe_lc (own := [("symbol", 3)]) rfl sc_is_symbol_list.nd (pi_seqK (K := K) (pv 0)) (blkOk_by (N := ["thing", "length", "width", "symbol"]) (sc := defScope st_is_symbol_list) (by decide +kernel)) (fun _ _ _ _ _ => (pg_name (i := 3) sc_is_symbol_list.nd rfl (Or.inl rfl))) (fun _ _ _ _ _ => pts_nil) (fun _ _ _ _ _ => (pe_cg cg_is_index hgd hr (Nat.le_add_right n _) (by rfl) pass0 (pa_cons (pv 3) (pa_cons (pv 2) pa_nil))))) pa_nil)))))))⟩
def sv_is_symbol_list (hT : Txt K mg D) {asp_is_index : AL} : {tf : TS × ATS // SS K tf.1 tf.2} := pk (ss_ret (se_andV (se_isB (n := .tup) (se_var (i := 0))) (se_andV (se_op so_eqB (se_cb sl_len (sa_cons (se_var (i := 0)) sa_nil)) (se_var (i := 1))) (se_cb sl_allB (sa_cons (se_lc (vs := [3]) (si_seq (se_var (i := 0))) (sg_name (i := 3)) (by decide) st_yes (se_call (g := asp_is_index) (sa_cons (se_var (i := 3)) (sa_cons (se_var (i := 2)) sa_nil)))) sa_nil)))))
theorem oa_is_symbol_list {n : Nat} (T : Txt K mg D) {asp_is_index : AL} (cg_is_index : Cg P w K mg base CX0 n "is_index" (cSp K asp_is_index)) {f : Addr} {fd : FuncData} (F : Fun K "is_symbol_list" "is_symbol_list" st_is_symbol_list f fd) {asp : AL} (hlen : ∀ vs S R, asp vs S R → vs.length = 3)
    (h : ∀ vs S R, asp vs S R → (sv_is_symbol_list T (asp_is_index := asp_is_index)).1.2 { nx := fun _ S => R .non S, rt := R } (startA ["thing", "length", "width", "symbol"] vs) S) : FnG P w K mg base CX0 (n + 1) f fd ["thing", "length", "width"] (cSp K asp) :=
  okA F sc_is_symbol_list (fun cdv A outer s H E hgd hr => (dv_is_symbol_list T cg_is_index hgd hr).2) (sv_is_symbol_list T (asp_is_index := asp_is_index)).2 (by decide) hlen h
noncomputable def dv_lists_heard {n : Nat} (T : Txt K mg D) {asp_is_symbol_list : AL} (cg_is_symbol_list : Cg P w K mg base CX0 n "is_symbol_list" (cSp K asp_is_symbol_list)) {f : Addr} {cdv : Value} {A : Around} {outer : List Env} {s : Shared} {H : Hp} {E : XK} (hgd : (A.deeper (envOfC "lists_heard" (defScope st_lists_heard) s.heap.objs.size f cdv)).guards = some []) (hr : Room (n + 0) (A.deeper (envOfC "lists_heard" (defScope st_lists_heard) s.heap.objs.size f cdv))) :
    {t : TS // PSs (cxOf CX0 P w K mg base ["letters", "width", "number", "letter"] "lists_heard" (defScope st_lists_heard) f cdv A outer s H E).nox (defBody st_lists_heard) t} := ⟨_, (pss_one (ps_ret (pe_lc (own := [("number", 2), ("letter", 3)]) rfl sc_lists_heard.nd (pi_enumNK (K := K) (n := 1) (by decide) (by rfl) T.b_enumerate (pa_cons (pv 0) pa_nil) (by exact pk_cons pe_int pk_nil)) (blkOk_by (N := ["letters", "width", "number", "letter"]) (sc := defScope st_lists_heard) (by decide +kernel)) (fun _ _ _ _ _ => (tupUK (K := K) (pg_tupU (n := 2) rfl (pgs_cons (pg_name (i := 2) sc_lists_heard.nd rfl (Or.inl rfl)) (pgs_cons (pg_name (i := 3) sc_lists_heard.nd rfl (Or.inl rfl)) pgs_nil))))) (fun _ _ _ _ _ => pts_nil) (fun _ _ _ _ _ => (pe_join (pe_ifExp (pt_truthK (K := K) (pe_cg cg_is_symbol_list hgd hr (Nat.le_add_right n _) (by rfl) pass0 (pa_cons (pv 3) (pa_cons (pv 2) (pa_cons (pv 1) pa_nil)))) (fun _ => rfl)) (pv 3) pe_non))))))⟩
def sv_lists_heard (hT : Txt K mg D) {asp_is_symbol_list : AL} : {tf : TS × ATS // SS K tf.1 tf.2} := pk (ss_ret (se_lc (vs := [2, 3]) (si_enumN (n := 1) (sa_cons (se_var (i := 0)) sa_nil)) (sg_tupU (n := 2) (sgs_cons (sg_name (i := 2)) (sgs_cons (sg_name (i := 3)) sgs_nil))) (by decide) st_yes (se_join (se_if (st_truth (se_call (g := asp_is_symbol_list) (sa_cons (se_var (i := 3)) (sa_cons (se_var (i := 2)) (sa_cons (se_var (i := 1)) sa_nil))))) (se_var (i := 3)) se_non))))
theorem oa_lists_heard {n : Nat} (T : Txt K mg D) {asp_is_symbol_list : AL} (cg_is_symbol_list : Cg P w K mg base CX0 n "is_symbol_list" (cSp K asp_is_symbol_list)) {f : Addr} {fd : FuncData} (F : Fun K "lists_heard" "lists_heard" st_lists_heard f fd) {asp : AL} (hlen : ∀ vs S R, asp vs S R → vs.length = 2)
    (h : ∀ vs S R, asp vs S R → (sv_lists_heard T (asp_is_symbol_list := asp_is_symbol_list)).1.2 { nx := fun _ S => R .non S, rt := R } (startA ["letters", "width", "number", "letter"] vs) S) : FnG P w K mg base CX0 (n + 1) f fd ["letters", "width"] (cSp K asp) :=
  okA F sc_lists_heard (fun cdv A outer s H E hgd hr => (dv_lists_heard T cg_is_symbol_list hgd hr).2) (sv_lists_heard T (asp_is_symbol_list := asp_is_symbol_list)).2 (by decide) hlen h
noncomputable def dv_ListSearch_fix {n : Nat} (T : Txt K mg D) {f : Addr} {cdv : Value} {A : Around} {outer : List Env} {s : Shared} {H : Hp} {E : XK} (hgd : (A.deeper (envOfC "ListSearch.fix" (defScope st_ListSearch_fix) s.heap.objs.size f cdv)).guards = some []) (hr : Room (n + 0) (A.deeper (envOfC "ListSearch.fix" (defScope st_ListSearch_fix) s.heap.objs.size f cdv))) :
    {t : TS // PSs (cxOf CX0 P w K mg base ["self", "number", "is_same"] "ListSearch.fix" (defScope st_ListSearch_fix) f cdv A outer s H E).nox (defBody st_ListSearch_fix) t} := ⟨_, (pss_one (ps_dput (room_1 hr) (fldK (K := K) (pe_fld (pv 0) rfl)) (pv 1) (pe_op (kAddB (K := K)) (pe_dget2 (room_1 hr) (fldK (K := K) (pe_fld (pv 0) rfl)) (pv 1) (pe_tupF pa_nil) ⟨rfl, rfl, rfl, rfl⟩) (pe_tupF (pa_cons (pv 2) pa_nil))) rfl))⟩
def sv_ListSearch_fix (hT : Txt K mg D) : {tf : TS × ATS // SS K tf.1 tf.2} := pk (ss_dput (se_fld (g := "rounds_fixed") (i := 4) (se_var (i := 0))) (se_var (i := 1)) (se_op so_addB (se_dget2 (se_fld (g := "rounds_fixed") (i := 4) (se_var (i := 0))) (se_var (i := 1)) (se_tup sa_nil)) (se_tup (sa_cons (se_var (i := 2)) sa_nil))))
theorem oa_ListSearch_fix {n : Nat} (T : Txt K mg D) {f : Addr} {fd : FuncData} (F : Fun K "fix" "ListSearch.fix" st_ListSearch_fix f fd) {asp : AL} (hlen : ∀ vs S R, asp vs S R → vs.length = 3)
    (h : ∀ vs S R, asp vs S R → (sv_ListSearch_fix T).1.2 { nx := fun _ S => R .non S, rt := R } (startA ["self", "number", "is_same"] vs) S) : FnG P w K mg base CX0 (n + 1) f fd ["self", "number", "is_same"] (cSp K asp) :=
  okA F sc_ListSearch_fix (fun cdv A outer s H E hgd hr => (dv_ListSearch_fix T hgd hr).2) (sv_ListSearch_fix T).2 (by decide) hlen h
noncomputable def dv_ListCode_fewest {n : Nat} (T : Txt K mg D) {asp_ListSearch___init__ : AL} {asp_ListSearch_descend : AL} {asp_lists_heard : AL} {asp_ListSearch_fix : AL} (ci_ListSearch : Ck P w K mg base CX0 n D.ListSearch 4 [] (cSp K asp_ListSearch___init__)) (cm_ListSearch_descend : Cm P w K mg base CX0 n D.ListSearch "descend" (cSp K asp_ListSearch_descend)) (cg_lists_heard : Cg P w K mg base CX0 n "lists_heard" (cSp K asp_lists_heard)) (cm_ListSearch_fix : Cm P w K mg base CX0 n D.ListSearch "fix" (cSp K asp_ListSearch_fix)) {f : Addr} {cdv : Value} {A : Around} {outer : List Env} {s : Shared} {H : Hp} {E : XK} (hgd : (A.deeper (envOfC "ListCode.fewest" (defScope st_ListCode_fewest) s.heap.objs.size f cdv)).guards = some []) (hr : Room (n + 1) (A.deeper (envOfC "ListCode.fewest" (defScope st_ListCode_fewest) s.heap.objs.size f cdv))) :
    {t : TS // PSs (cxOf CX0 P w K mg base ["self", "letters", "width", "most", "start", "other", "agree", "differ", "search"] "ListCode.fewest" (defScope st_ListCode_fewest) f cdv A outer s H E).nox (defBody st_ListCode_fewest) t} := ⟨_, (pss_cons (ps_set (i := 8) sc_ListCode_fewest.nd rfl (Or.inl rfl) (pe_mkA ci_ListSearch hgd hr (Nat.le_refl _) (by rfl) T.g_ListSearch pass0 (pa_cons (pe_cg cg_lists_heard hgd hr (Nat.le_add_right n _) (by rfl) pass0 (pa_cons (pv 1) (pa_cons (pv 2) pa_nil))) (pa_cons (pv 2) (pa_cons (pv 4) (pa_cons (pv 5) pa_nil))))))
    (pss_join (ps_if (pt_cmpR oIsNot (pv 6) pe_non (by first | exact nomark _ | rfl)) (pss_one (ps_expr (mdK (K := K) (pe_md (pv 8) (ca_one cm_ListSearch_fix) hgd hr (Nat.le_add_right n _) pass0 (pa_cons (pv 6) (pa_cons pe_bl pa_nil)))))) pss_nil)
    (pss_join (ps_if (pt_cmpR oIsNot (pv 7) pe_non (by first | exact nomark _ | rfl)) (pss_one (ps_expr (mdK (K := K) (pe_md (pv 8) (ca_one cm_ListSearch_fix) hgd hr (Nat.le_add_right n _) pass0 (pa_cons (pv 7) (pa_cons pe_bl pa_nil)))))) pss_nil)
    (pss_cons (ps_expr (mdK (K := K) (pe_md (pv 8) (ca_one cm_ListSearch_descend) hgd hr (Nat.le_add_right n _) pass0 (pa_cons (pe_tupF pa_nil) (pa_cons pe_int (pa_cons (pv 3) pa_nil))))))
    (pss_one (ps_ret (fldK (K := K) (pe_fld (pv 8) rfl))))))))⟩
def sv_ListCode_fewest (hT : Txt K mg D) {asp_ListSearch___init__ : AL} {asp_ListSearch_descend : AL} {asp_lists_heard : AL} {asp_ListSearch_fix : AL} : {tf : TS × ATS // SS K tf.1 tf.2} := pk (ss_cons (ss_asg (se_mk (nk := 0) (g := asp_ListSearch___init__) hT.cl_ListSearch (sa_cons (se_call (g := asp_lists_heard) (sa_cons (se_var (i := 1)) (sa_cons (se_var (i := 2)) sa_nil))) (sa_cons (se_var (i := 2)) (sa_cons (se_var (i := 4)) (sa_cons (se_var (i := 5)) sa_nil)))) sa_nil) (sg_name (i := 8)))
    (ss_join (ss_if (st_test (se_op so_isNot (se_var (i := 6)) se_non)) (ss_expr (se_md (m := "fix") (ca := (fun C g => (C = D.ListSearch ∧ g = asp_ListSearch_fix))) (se_var (i := 8)) (sa_cons (se_var (i := 6)) (sa_cons (se_bl (i := true)) sa_nil)))) ss_nil)
    (ss_join (ss_if (st_test (se_op so_isNot (se_var (i := 7)) se_non)) (ss_expr (se_md (m := "fix") (ca := (fun C g => (C = D.ListSearch ∧ g = asp_ListSearch_fix))) (se_var (i := 8)) (sa_cons (se_var (i := 7)) (sa_cons (se_bl (i := false)) sa_nil)))) ss_nil)
    (ss_cons (ss_expr (se_md (m := "descend") (ca := (fun C g => (C = D.ListSearch ∧ g = asp_ListSearch_descend))) (se_var (i := 8)) (sa_cons (se_tup sa_nil) (sa_cons (se_int (i := 0)) (sa_cons (se_var (i := 3)) sa_nil)))))
    (ss_ret (se_fld (g := "best_found") (i := 5) (se_var (i := 8))))))))
theorem oa_ListCode_fewest {n : Nat} (T : Txt K mg D) {asp_ListSearch___init__ : AL} {asp_ListSearch_descend : AL} {asp_lists_heard : AL} {asp_ListSearch_fix : AL} (ci_ListSearch : Ck P w K mg base CX0 n D.ListSearch 4 [] (cSp K asp_ListSearch___init__)) (cm_ListSearch_descend : Cm P w K mg base CX0 n D.ListSearch "descend" (cSp K asp_ListSearch_descend)) (cg_lists_heard : Cg P w K mg base CX0 n "lists_heard" (cSp K asp_lists_heard)) (cm_ListSearch_fix : Cm P w K mg base CX0 n D.ListSearch "fix" (cSp K asp_ListSearch_fix)) {f : Addr} {fd : FuncData} (F : Fun K "fewest" "ListCode.fewest" st_ListCode_fewest f fd) {asp : AL} (hlen : ∀ vs S R, asp vs S R → vs.length = 8)
    (h : ∀ vs S R, asp vs S R → (sv_ListCode_fewest T (asp_ListSearch___init__ := asp_ListSearch___init__) (asp_ListSearch_descend := asp_ListSearch_descend) (asp_lists_heard := asp_lists_heard) (asp_ListSearch_fix := asp_ListSearch_fix)).1.2 { nx := fun _ S => R .non S, rt := R } (startA ["self", "letters", "width", "most", "start", "other", "agree", "differ", "search"] vs) S) : FnG P w K mg base CX0 (n + 2) f fd ["self", "letters", "width", "most", "start", "other", "agree", "differ"] (cSp K asp) :=
  okA F sc_ListCode_fewest (fun cdv A outer s H E hgd hr => (dv_ListCode_fewest T ci_ListSearch cm_ListSearch_descend cg_lists_heard cm_ListSearch_fix hgd hr).2) (sv_ListCode_fewest T (asp_ListSearch___init__ := asp_ListSearch___init__) (asp_ListSearch_descend := asp_ListSearch_descend) (asp_lists_heard := asp_lists_heard) (asp_ListSearch_fix := asp_ListSearch_fix)).2 (by decide) hlen h
noncomputable def dv_ListCode_decoded {n : Nat} (T : Txt K mg D) {ask_ListCode_fewest : AL} (cmk_ListCode_fewest : Cmk P w K mg base CX0 n D.ListCode "fewest" 1 ["width", "most"] (cSp K ask_ListCode_fewest)) {f : Addr} {cdv : Value} {A : Around} {outer : List Env} {s : Shared} {H : Hp} {E : XK} (hgd : (A.deeper (envOfC "Code.decoded" (defScope st_ListCode_decoded) s.heap.objs.size f cdv)).guards = some []) (hr : Room (n + 0) (A.deeper (envOfC "Code.decoded" (defScope st_ListCode_decoded) s.heap.objs.size f cdv))) :
    {t : TS // PSs (cxOf CX0 P w K mg base ["self", "letters", "width", "most", "found"] "Code.decoded" (defScope st_ListCode_decoded) f cdv A outer s H E).nox (defBody st_ListCode_decoded) t} := ⟨_, (pss_cons (ps_set (i := 4) sc_ListCode_decoded.nd rfl (Or.inl rfl) (mdkK (K := K) (pe_mdk (pv 0) (ca_one cmk_ListCode_fewest) hgd hr (Nat.le_add_right n _) pass0 (pa_cons (pv 1) pa_nil) (pk_cons (pv 2) (pk_cons (pv 3) pk_nil)))))
    (pss_one (ps_ret (pe_ifExp (pt_cmpR oIs (pv 4) pe_non (by first | exact nomark _ | rfl)) pe_non (pe_ix (kIx (K := K)) (pv 4) pe_int (fun _ _ => rfl))))))⟩
def sv_ListCode_decoded (hT : Txt K mg D) {ask_ListCode_fewest : AL} : {tf : TS × ATS // SS K tf.1 tf.2} := pk (ss_cons (ss_asg (se_mdk (m := "fewest") (nk := 2) (ca := (fun C g => (C = D.ListCode ∧ g = ask_ListCode_fewest))) (se_var (i := 0)) (sa_cons (se_var (i := 1)) sa_nil) (sa_cons (se_var (i := 2)) (sa_cons (se_var (i := 3)) sa_nil))) (sg_name (i := 4)))
    (ss_ret (se_if (st_test (se_op so_is (se_var (i := 4)) se_non)) se_non (se_op so_ix (se_var (i := 4)) (se_int (i := 1))))))
theorem oa_ListCode_decoded {n : Nat} (T : Txt K mg D) {ask_ListCode_fewest : AL} (cmk_ListCode_fewest : Cmk P w K mg base CX0 n D.ListCode "fewest" 1 ["width", "most"] (cSp K ask_ListCode_fewest)) {f : Addr} {fd : FuncData} (F : Fun K "decoded" "Code.decoded" st_ListCode_decoded f fd) {asp : AL} (hlen : ∀ vs S R, asp vs S R → vs.length = 4)
    (h : ∀ vs S R, asp vs S R → (sv_ListCode_decoded T (ask_ListCode_fewest := ask_ListCode_fewest)).1.2 { nx := fun _ S => R .non S, rt := R } (startA ["self", "letters", "width", "most", "found"] vs) S) : FnG P w K mg base CX0 (n + 1) f fd ["self", "letters", "width", "most"] (cSp K asp) :=
  okA F sc_ListCode_decoded (fun cdv A outer s H E hgd hr => (dv_ListCode_decoded T cmk_ListCode_fewest hgd hr).2) (sv_ListCode_decoded T (ask_ListCode_fewest := ask_ListCode_fewest)).2 (by decide) hlen h
noncomputable def dv_law {n : Nat} (T : Txt K mg D) {asp__law_deck : AL} {asp__law_heard : AL} {asp__law_draw : AL} {asp__law_due : AL} {ask_ListCode_decoded1 : AL} {ask_ListCode_decoded : AL} (cg__law_deck : Cg P w K mg base CX0 n "_law_deck" (cSp K asp__law_deck)) (cg__law_heard : Cg P w K mg base CX0 n "_law_heard" (cSp K asp__law_heard)) (cg__law_draw : Cg P w K mg base CX0 n "_law_draw" (cSp K asp__law_draw)) (cg__law_due : Cg P w K mg base CX0 n "_law_due" (cSp K asp__law_due)) (cmk_ListCode_decoded1 : Cmk P w K mg base CX0 n D.ListCode "decoded" 1 ["width", "most"] (cSp K ask_ListCode_decoded1)) (cmk_ListCode_decoded : Cmk P w K mg base CX0 n D.ListCode "decoded" 0 ["most", "width", "letters"] (cSp K ask_ListCode_decoded)) {f : Addr} {cdv : Value} {A : Around} {outer : List Env} {s : Shared} {H : Hp} {E : XK} (hgd : (A.deeper (envOfC "law" (defScope st_law) s.heap.objs.size f cdv)).guards = some []) (hr : Room (n + 0) (A.deeper (envOfC "law" (defScope st_law) s.heap.objs.size f cdv))) :
    {t : TS // PSs (cxOf CX0 P w K mg base ["_law_script", "_law_deck_here", "_law_code", "_law_turn", "_law_limit", "_law_length", "_law_bound", "_law_heard_here", "_law_is_within", "_law_due_here", "_law_kept", "_law_told"] "law" (defScope st_law) f cdv A outer s H E).nox (defBody st_law) t} := ⟨_, (pss_cons (ps_par (i := 1) (j := 2) rfl sc_law.nd rfl rfl (by decide) rfl rfl (pa_cons (pe_cg cg__law_deck hgd hr (Nat.le_add_right n _) (by rfl) pass0 (pa_cons (pv 0) pa_nil)) (pa_cons (pe_mk0 T.mk_ListCode (by rfl) T.g_ListCode) pa_nil)) (by rfl))
    (pss_cons (ps_for PassesOwn.never rfl (pi_range1 (by rfl) T.b_range (pa_cons pe_int pa_nil)) (pg_name (i := 3) sc_law.nd rfl (Or.inl rfl)) (pss_cons (ps_set (i := 4) sc_law.nd rfl (Or.inl rfl) (pe_ix (kIx (K := K)) (pe_lst (pa_cons pe_int (pa_cons pe_int (pa_cons pe_int (pa_cons pe_int (pa_cons (pe_op oPow pe_int pe_int) pa_nil)))))) (pe_cg cg__law_draw hgd hr (Nat.le_add_right n _) (by rfl) pass0 (pa_cons (pv 1) (pa_cons pe_int pa_nil))) (fun _ _ => rfl)))
    (pss_cons (ps_par (i := 5) (j := 6) rfl sc_law.nd rfl rfl (by decide) rfl rfl (pa_cons (pe_op (kAddB (K := K)) pe_int (pe_cg cg__law_draw hgd hr (Nat.le_add_right n _) (by rfl) pass0 (pa_cons (pv 1) (pa_cons (pe_op kSubB (cvalK (K := K) (ClX.pe_cval (pe_glob (v := .ref D.Code) (by rfl) T.g_Code rfl))) pe_int) pa_nil)))) (pa_cons (pe_cg cg__law_draw hgd hr (Nat.le_add_right n _) (by rfl) pass0 (pa_cons (pv 1) (pa_cons pe_int pa_nil))) pa_nil)) (by rfl))
    (pss_cons (ps_asg (pe_cg cg__law_heard hgd hr (Nat.le_add_right n _) (by rfl) pass0 (pa_cons (pv 1) (pa_cons (pv 4) (pa_cons (pv 5) (pa_cons (pv 6) pa_nil))))) (tupUK (K := K) (pg_tupU (n := 2) rfl (pgs_cons (pg_name (i := 7) sc_law.nd rfl (Or.inl rfl)) (pgs_cons (pg_name (i := 8) sc_law.nd rfl (Or.inl rfl)) pgs_nil)))))
    (pss_cons (ps_par (i := 9) (j := 10) rfl sc_law.nd rfl rfl (by decide) rfl rfl (pa_cons (pe_cg cg__law_due hgd hr (Nat.le_add_right n _) (by rfl) pass0 (pa_cons (pv 7) (pa_cons (pv 4) (pa_cons (pv 6) pa_nil)))) (pa_cons (pe_callB (kReprQ (K := K) hgd hr) (by rfl) T.b_repr (by decide +kernel) (pa_cons (pv 7) pa_nil)) pa_nil)) (by rfl))
    (pss_cons (ps_set (i := 11) sc_law.nd rfl (Or.inl rfl) (pe_lst (pa_cons (mdkK (K := K) (pe_mdk (pv 2) (ca_one cmk_ListCode_decoded1) hgd hr (Nat.le_add_right n _) pass0 (pa_cons (pv 7) pa_nil) (pk_cons (pv 4) (pk_cons (pv 6) pk_nil)))) (pa_cons (mdkK (K := K) (pe_mdk0 (pv 2) (ca_one cmk_ListCode_decoded) hgd hr (Nat.le_add_right n _) pass0 (pk_cons (pv 6) (pk_cons (pv 4) (pk_cons (pv 7) pk_nil))))) pa_nil))))
    (pss_cons (ps_if (PW.pt (pw_or (pt_cmpR (kNe (K := K) hr) (pe_callB (kReprQ (K := K) hgd hr) (by rfl) T.b_repr (by decide +kernel) (pa_cons (pv 11) pa_nil)) (pe_callB (kReprQ (K := K) hgd hr) (by rfl) T.b_repr (by decide +kernel) (pa_cons (pe_lst (pa_cons (pv 9) (pa_cons (pv 9) pa_nil))) pa_nil)) (by first | exact nomark _ | rfl)) (pw_or (PW.pt (pw_and (pt_truthK (K := K) (pv 8) (fun _ => rfl)) (pw_and1 (pt_cmpR oIs (pv 9) pe_non (by first | exact nomark _ | rfl))))) (pw_or1 (pt_cmpR (kNe (K := K) hr) (pe_callB (kReprQ (K := K) hgd hr) (by rfl) T.b_repr (by decide +kernel) (pa_cons (pv 7) pa_nil)) (pv 10) (by first | exact nomark _ | rfl)))))) (pss_one (ps_ret pe_bl)) pss_nil)
    (pss_one (ps_if (pt_cmpR (kNe (K := K) hr) (pe_callB (kReprQ (K := K) hgd hr) (by rfl) T.b_repr (by decide +kernel) (pa_cons (mdkK (K := K) (pe_mdk (pv 2) (ca_one cmk_ListCode_decoded1) hgd hr (Nat.le_add_right n _) pass0 (pa_cons (pv 7) pa_nil) (pk_cons (pv 4) (pk_cons pe_int pk_nil)))) pa_nil)) (pe_callB (kReprQ (K := K) hgd hr) (by rfl) T.b_repr (by decide +kernel) (pa_cons (pe_cg cg__law_due hgd hr (Nat.le_add_right n _) (by rfl) pass0 (pa_cons (pv 7) (pa_cons (pv 4) (pa_cons pe_int pa_nil)))) pa_nil)) (by first | exact nomark _ | rfl)) (pss_one (ps_ret pe_bl)) pss_nil)))))))))
    (pss_one (ps_ret pe_bl))))⟩
def sv_law (hT : Txt K mg D) {asp__law_deck : AL} {asp__law_heard : AL} {asp__law_draw : AL} {asp__law_due : AL} {ask_ListCode_decoded1 : AL} {ask_ListCode_decoded : AL} : {tf : TS × ATS // SS K tf.1 tf.2} := pk (ss_cons (ss_par (i := 1) (j := 2) (sa_cons (se_call (g := asp__law_deck) (sa_cons (se_var (i := 0)) sa_nil)) (sa_cons (se_mk0 hT.cl_ListCode) sa_nil)))
    (ss_cons (ss_for (si_rng1 (sa_cons (se_int (i := 8)) sa_nil)) (sg_name (i := 3)) (ss_cons (ss_asg (se_op so_ix (se_lst (sa_cons (se_int (i := 2)) (sa_cons (se_int (i := 3)) (sa_cons (se_int (i := 26)) (sa_cons (se_int (i := 126)) (sa_cons (se_op so_pow (se_int (i := 10)) (se_int (i := 12))) sa_nil)))))) (se_call (g := asp__law_draw) (sa_cons (se_var (i := 1)) (sa_cons (se_int (i := 5)) sa_nil)))) (sg_name (i := 4)))
    (ss_cons (ss_par (i := 5) (j := 6) (sa_cons (se_op so_addB (se_int (i := 5)) (se_call (g := asp__law_draw) (sa_cons (se_var (i := 1)) (sa_cons (se_op so_subB (se_cval (i := 30) hT.cv_Code_LONGEST) (se_int (i := 4))) sa_nil)))) (sa_cons (se_call (g := asp__law_draw) (sa_cons (se_var (i := 1)) (sa_cons (se_int (i := 4)) sa_nil))) sa_nil)))
    (ss_cons (ss_asg (se_call (g := asp__law_heard) (sa_cons (se_var (i := 1)) (sa_cons (se_var (i := 4)) (sa_cons (se_var (i := 5)) (sa_cons (se_var (i := 6)) sa_nil))))) (sg_tupU (n := 2) (sgs_cons (sg_name (i := 7)) (sgs_cons (sg_name (i := 8)) sgs_nil))))
    (ss_cons (ss_par (i := 9) (j := 10) (sa_cons (se_call (g := asp__law_due) (sa_cons (se_var (i := 7)) (sa_cons (se_var (i := 4)) (sa_cons (se_var (i := 6)) sa_nil)))) (sa_cons (se_cb sl_reprQ (sa_cons (se_var (i := 7)) sa_nil)) sa_nil)))
    (ss_cons (ss_asg (se_lst (sa_cons (se_mdk (m := "decoded") (nk := 2) (ca := (fun C g => (C = D.ListCode ∧ g = ask_ListCode_decoded1))) (se_var (i := 2)) (sa_cons (se_var (i := 7)) sa_nil) (sa_cons (se_var (i := 4)) (sa_cons (se_var (i := 6)) sa_nil))) (sa_cons (se_mdk (m := "decoded") (nk := 3) (ca := (fun C g => (C = D.ListCode ∧ g = ask_ListCode_decoded))) (se_var (i := 2)) sa_nil (sa_cons (se_var (i := 6)) (sa_cons (se_var (i := 4)) (sa_cons (se_var (i := 7)) sa_nil)))) sa_nil))) (sg_name (i := 11)))
    (ss_cons (ss_if (st_or (st_test (se_op so_ne (se_cb sl_reprQ (sa_cons (se_var (i := 11)) sa_nil)) (se_cb sl_reprQ (sa_cons (se_lst (sa_cons (se_var (i := 9)) (sa_cons (se_var (i := 9)) sa_nil))) sa_nil)))) (st_or (st_and (st_truth (se_var (i := 8))) (st_test (se_op so_is (se_var (i := 9)) se_non))) (st_test (se_op so_ne (se_cb sl_reprQ (sa_cons (se_var (i := 7)) sa_nil)) (se_var (i := 10)))))) (ss_ret (se_bl (i := false))) ss_nil)
    (ss_if (st_test (se_op so_ne (se_cb sl_reprQ (sa_cons (se_mdk (m := "decoded") (nk := 2) (ca := (fun C g => (C = D.ListCode ∧ g = ask_ListCode_decoded1))) (se_var (i := 2)) (sa_cons (se_var (i := 7)) sa_nil) (sa_cons (se_var (i := 4)) (sa_cons (se_int (i := 3)) sa_nil))) sa_nil)) (se_cb sl_reprQ (sa_cons (se_call (g := asp__law_due) (sa_cons (se_var (i := 7)) (sa_cons (se_var (i := 4)) (sa_cons (se_int (i := 3)) sa_nil)))) sa_nil)))) (ss_ret (se_bl (i := false))) ss_nil))))))))
    (ss_ret (se_bl (i := true)))))
theorem oa_law {n : Nat} (T : Txt K mg D) {asp__law_deck : AL} {asp__law_heard : AL} {asp__law_draw : AL} {asp__law_due : AL} {ask_ListCode_decoded1 : AL} {ask_ListCode_decoded : AL} (cg__law_deck : Cg P w K mg base CX0 n "_law_deck" (cSp K asp__law_deck)) (cg__law_heard : Cg P w K mg base CX0 n "_law_heard" (cSp K asp__law_heard)) (cg__law_draw : Cg P w K mg base CX0 n "_law_draw" (cSp K asp__law_draw)) (cg__law_due : Cg P w K mg base CX0 n "_law_due" (cSp K asp__law_due)) (cmk_ListCode_decoded1 : Cmk P w K mg base CX0 n D.ListCode "decoded" 1 ["width", "most"] (cSp K ask_ListCode_decoded1)) (cmk_ListCode_decoded : Cmk P w K mg base CX0 n D.ListCode "decoded" 0 ["most", "width", "letters"] (cSp K ask_ListCode_decoded)) {f : Addr} {fd : FuncData} (F : Fun K "law" "law" st_law f fd) {asp : AL} (hlen : ∀ vs S R, asp vs S R → vs.length = 1)
    (h : ∀ vs S R, asp vs S R → (sv_law T (asp__law_deck := asp__law_deck) (asp__law_heard := asp__law_heard) (asp__law_draw := asp__law_draw) (asp__law_due := asp__law_due) (ask_ListCode_decoded1 := ask_ListCode_decoded1) (ask_ListCode_decoded := ask_ListCode_decoded)).1.2 { nx := fun _ S => R .non S, rt := R } (startA ["_law_script", "_law_deck_here", "_law_code", "_law_turn", "_law_limit", "_law_length", "_law_bound", "_law_heard_here", "_law_is_within", "_law_due_here", "_law_kept", "_law_told"] vs) S) : FnG P w K mg base CX0 (n + 1) f fd ["_law_script"] (cSp K asp) :=
  okA F sc_law (fun cdv A outer s H E hgd hr => (dv_law T cg__law_deck cg__law_heard cg__law_draw cg__law_due cmk_ListCode_decoded1 cmk_ListCode_decoded hgd hr).2) (sv_law T (asp__law_deck := asp__law_deck) (asp__law_heard := asp__law_heard) (asp__law_draw := asp__law_draw) (asp__law_due := asp__law_due) (ask_ListCode_decoded1 := ask_ListCode_decoded1) (ask_ListCode_decoded := ask_ListCode_decoded)).2 (by decide) hlen h
end
end K16

open PySem PySem.Spec PyProof.Rows L2 L5
open L3 hiding loop_rng loop_rng0 comp_rng comp_rng0
local macro_rules | `(tactic| wtm_at "env") => `(tactic| first | ((with_unfolding_all dsimp only [put, hides, hide, startA]) <;> with_reducible rfl) | with_reducible rfl)
local macro_rules | `(tactic| wtm_at "sto") => `(tactic| first | ((with_unfolding_all simp only [dx, dd3, List.cons_append, List.nil_append, List.length_cons, List.length_nil, List.append_assoc, Nat.reduceAdd, Nat.zero_add]) <;> with_reducible rfl) | with_reducible rfl)
/-! the stepper over trees -/
local macro_rules | `(tactic| wtm_at "sz") => `(tactic| with_unfolding_all first
  | omega
  | exact (rfl : (_ : Nat) = _)
  | exact (rfl : (_ : PV) = _)
  | exact (rfl : (_ : Option Str) = some _)
  | (simp only [List.length_cons, List.length_nil, List.length_append, List.length_map, List.length_replicate, List.length_reverse]; first | done | omega | (unfold sizeLine; omega))
  | (unfold sizeLine; omega)
  | (unfold CMul; omega) | (unfold CDiv; omega) | (dsimp only; omega) | (unfold CPow; decide)
  | decide
  | decide +kernel
  | (intro hx; cases hx; done))
local macro_rules | `(tactic| wtm_at "a1") => `(tactic| with_reducible first
  | refine And.intro (by first | assumption | wtm_at "sz") ?_
  | refine r_set (by wtm_at "env") ?_
  | refine r_onL (by first | with_reducible rfl | assumption | exact sget_new _ _ | exact sget_two _ _ _ _) ?_
  | refine r_onO (by with_unfolding_all rfl) ?_
  | refine r_ins (by first | with_reducible rfl | assumption) ?_
  | refine r_ca (by first | exact ⟨rfl, rfl⟩ | exact .inl ⟨rfl, rfl⟩ | exact .inr ⟨rfl, rfl⟩ | exact .inr (.inl ⟨rfl, rfl⟩) | exact .inr (.inr ⟨rfl, rfl⟩)) ?_
  | refine r_stF rfl (by first | with_reducible rfl | assumption) (by with_unfolding_all rfl) (by with_reducible rfl) ?_
  | refine r_new (by wtm_at "sto") (by wtm_at "sto") ?_
  | refine r_onD (by first | with_reducible rfl | assumption) ?_
  | refine r_ownD rfl (by first | with_reducible rfl | assumption) (by wtm_at "sz") ?_
  | refine r_dat 0 rfl rfl ?_ | refine r_dat 1 rfl rfl ?_ | refine r_dat 2 rfl rfl ?_ | refine r_dat 3 rfl rfl ?_ | refine r_dat 4 rfl rfl ?_ | refine r_dat 5 rfl rfl ?_ | refine r_dat 6 rfl rfl ?_ | refine r_dat 7 rfl rfl ?_
  | refine r_dput 0 rfl ?_ | refine r_dput 1 rfl ?_ | refine r_dput 2 rfl ?_ | refine r_dput 3 rfl ?_ | refine r_dput 4 rfl ?_ | refine r_dput 5 rfl ?_ | refine r_dput 6 rfl ?_ | refine r_dput 7 rfl ?_
  | refine r_dputN (by decide +kernel) (by decide) ?_
  | refine r_kOk rfl (by decide +kernel) (by decide) ?_
  | refine r_texts rfl ?_
  | refine r_rsv (by assumption) ?_
  | refine r_brT ?_ | refine r_brF ?_ | refine r_brN ?_
  | refine r_by (by with_reducible rfl) ?_
  | refine r_by (by decide +kernel) ?_ | refine r_bn (by decide +kernel) ?_
  | refine r_cT (by decide +kernel) ?_ | refine r_cF (by decide +kernel) ?_)
local macro_rules | `(tactic| wtm_at "aw") => `(tactic| ((with_reducible conv => whnf); repeat ((wtm_at "a1"); (with_reducible conv => whnf))))

namespace K16
section
variable {P : Program} {w : World} {K : PySem.W.Frag} {mg : Str → Option Value} {base : Heap} {D : Ad} {n : Nat}
theorem ok_source (T : Txt K mg D) {f : Addr} {fd : FuncData} (F : Fun K "_law_deck" "_law_deck" st__law_deck f fd) : FnG P w K mg base CX0 (n + 1) f fd ["_law_script"] (cSp K (asp_source "numbers" "mixed" "choices" X0)) := by
  refine oa__law_deck T F (fun vs S R h => ?_) (fun vs S R h => ?_)
  · obtain ⟨ns, rfl, _⟩ := h
    rfl
  · obtain ⟨ns, rfl, rfl, hl, k⟩ := h
    dsimp only [sv__law_deck, pk]
    wtm_at "aw"
    obtain ⟨ms, em, hm⟩ := cut_iL ns none (some 63)
    rw [em]
    refine loop_one (fun i ρ S' => ∃ m v, ρ = [some (.scr ns), some (.lst (iL ms)), some (.int m), v] ∧ S' = [] ∧ 0 ≤ m ∧ m < 4294967296) ⟨_, _, rfl, rfl, by decide, by decide⟩ ?_ ?_
    · rintro i x ρ _ hi ⟨m, v, rfl, rfl, h0, h1⟩
      obtain ⟨n, hn, rfl⟩ := map_at hi
      wtm_at "aw"
      exact ⟨_, _, rfl, rfl, by omega, by omega⟩
    · rintro ρ _ ⟨m, v, rfl, rfl, h0, h1⟩
      wtm_at "aw"
      have := k ⟨ms.reverse, m, 0⟩ ⟨h0, h1, Int.le_refl _, Int.le_refl _, by show ms.reverse.length ≤ 64; rw [List.length_reverse]; omega⟩
      have e : dx "numbers" "mixed" "choices" X0 ⟨ms.reverse, m, 0⟩ [] = [.lst (iL ms).reverse, .dct [.inr "numbers", .inr "mixed", .inr "choices"] [.own 0, .int m, .int 0]] := by
        unfold dx dd3 iL
        rw [List.map_reverse]
      rw [e] at this
      exact this
end
end K16

namespace K16
section
variable {P : Program} {w : World} {K : PySem.W.Frag} {mg : Str → Option Value} {base : Heap} {D : Ad} {n : Nat}
@[reducible] def tupP (xs : List Int) : PV := .tup (iL xs)
/-- a number below a limit up to 10 ** 12 -/
def asp_drwW : AL := fun vs S P => ∃ (X : XT) (D : Dk) (G : Sto) (n m : Int), vs = [.own 1, .int m] ∧ S = dx "numbers" "mixed" "choices" X D G ∧ X.1.length ≤ 100 ∧ D.Ok n ∧ n ≤ 1000000000 ∧ 1 ≤ m ∧ m ≤ 1000000000000 ∧ ∀ r D', 0 ≤ r → r < m → D'.Ok (n + 1) → P (.int r) (dx "numbers" "mixed" "choices" X D' G)
theorem ok_drwW (T : Txt K mg D) {f : Addr} {fd : FuncData} (F : Fun K "_law_draw" "_law_draw" st__law_draw f fd) : FnG P w K mg base CX0 (n + 1) f fd ["_law_deck_here", "_law_limit"] (cSp K asp_drwW) := by
  refine oa__law_draw T F (fun vs S R h => ?_) (fun vs S R h => ?_)
  · obtain ⟨X, D, G, n, m, rfl, _⟩ := h
    rfl
  · obtain ⟨X, ⟨cells, m0, k0⟩, G, n, m, rfl, rfl, hX, ⟨g1, g2, g3, g4, g5⟩, hn, hm1, hm2, k⟩ := h
    dsimp only at g1 g2 g3 g4 g5
    have hq : eqOk (.lst (iL cells)) := eqOk_iL cells
    have done : ∀ (r : Int) (cs : List Int), cs.length ≤ 64 → 0 ≤ r → r < m → R (.int r) (dd3 "numbers" "mixed" "choices" X cs m0 (k0 + 1) G) := fun r cs hc h0 h1 => k r ⟨cs, m0, k0 + 1⟩ h0 h1 ⟨g1, g2, by show 0 ≤ k0 + 1; omega, by show k0 + 1 ≤ n + 1; omega, hc⟩
    dsimp only [sv__law_draw, pk, dx]
    wtm_at "aw"
    refine ⟨fun ρ S' => ∃ (cs : List Int) (z : Int), ρ = [some (.own 1), some (.int m), some (.int (k0 + 1)), some (.int z)] ∧ S' = dd3 "numbers" "mixed" "choices" X cs m0 (k0 + 1) G ∧ cs.length ≤ 64, ?_, ?_⟩
    · wtm_at "aw"
      by_cases hc : cells = []
      · subst hc
        refine r_brT ?_
        wtm_at "aw"
        exact ⟨[], m0, rfl, rfl, by decide⟩
      · obtain ⟨cs, z, rfl⟩ := last_of hc
        have e : (iL (cs ++ [z])).isEmpty = false := by simp
        rw [e]
        rw [List.length_append, List.length_singleton] at g5
        wtm_at "aw"
        refine r_onO (x := .int z) (by simp) ?_
        have e2 : (iL (cs ++ [z])).dropLast = iL cs := by simp
        rw [e2]
        wtm_at "aw"
        refine r_br (fun h => ?_) (fun h => ?_)
        · wtm_at "aw"
          have := done (z % m) (cs ++ [z / m]) (by rw [List.length_append, List.length_singleton]; omega) (Int.emod_nonneg _ (by omega)) (Int.emod_lt_of_pos _ (by omega))
          have e3 : iL (cs ++ [z / m]) = iL cs ++ [.int (z / m)] := by simp
          unfold dd3 at this
          rw [e3] at this
          exact this
        · wtm_at "aw"
          exact ⟨cs, _, rfl, rfl, by omega⟩
    · rintro ρ _ ⟨cs, z, rfl, rfl, hc⟩
      wtm_at "aw"
      exact done _ cs hc (Int.emod_nonneg _ (by omega)) (Int.emod_lt_of_pos _ (by omega))
theorem drw_weak {k : Nat} {f : Addr} {fd : FuncData} {ps : List Str} (F : FnG P w K mg base CX0 k f fd ps (cSp K asp_drwW)) : FnG P w K mg base CX0 k f fd ps (cSp K (asp_drw "numbers" "mixed" "choices")) :=
  fnG_weak F fun vs S R ⟨X, D, G, n, m, h1, h2, h3, h4, h5, h6, h7, ret⟩ => ⟨X, D, G, n, m, h1, h2, h3, h4, h5, h6, by omega, ret⟩
theorem ok_pck (T : Txt K mg D) (c1 : Cg P w K mg base CX0 n "_law_draw" (cSp K (asp_drw "numbers" "mixed" "choices"))) {f : Addr} {fd : FuncData} (F : Fun K "_law_pick" "_law_pick" st__law_pick f fd) : FnG P w K mg base CX0 (n + 1) f fd ["_law_deck_here", "_law_items"] (cSp K (asp_pck "numbers" "mixed" "choices")) := by
  refine oa__law_pick T c1 F (fun vs S R h => ?_) (fun vs S R h => ?_)
  · obtain ⟨X, D, G, n, s, xs, rfl, _⟩ := h
    rfl
  · obtain ⟨X, D, G, n, s, xs, rfl, rfl, hX, hD, hn, h0, h1, hs, k⟩ := h
    dsimp only [sv__law_pick, pk]
    have hs0 := hs D
    wtm_at "aw"
    refine ⟨X, D, G, n, _, rfl, rfl, hX, hD, hn, by omega, by omega, fun r D' r0 r1 hD' => ?_⟩
    have hs1 := hs D'
    obtain ⟨v, hv, hv2⟩ := at_int r0 r1
    wtm_at "aw"
    exact ⟨v, hv, k v D' (List.mem_of_getElem? hv2) hD'⟩
end
end K16

namespace K16
open LS
section
variable {P : Program} {w : World} {K : PySem.W.Frag} {mg : Str → Option Value} {base : Heap} {D : Ad} {n : Nat}
section
variable {C : Sto → Prop} {g : AG} {b : ATS} {E : AEnds} {ρ : AEnv} {S : Sto} {at' : ATT} {ae : ATE} {R : List PV → Sto → Prop} {N : Nat}
theorem loop_enumN {xs : List PV} (Iv : Nat → AEnv → Sto → Prop) (h0 : Iv 0 ρ S) (hs : ∀ i x ρ S, xs[i]? = some x → Iv i ρ S → g (.many [.int ((N + i : Nat) : Int), x]) ρ S fun ρ1 S1 => b { nx := Iv (i + 1), ct := Iv (i + 1), bk := E.nx, rt := E.rt } ρ1 S1)
    (hd : ∀ ρ S, Iv xs.length ρ S → E.nx ρ S) : aLoop cT (enumI N xs) g b E ρ S :=
  loop_inv Iv h0 (fun _ _ _ _ => trivial) (fun i it ρ S e iv => by
    obtain ⟨x, hx, rfl⟩ := enumI_get e
    exact hs i x ρ S hx iv) fun ρ S iv => hd ρ S (by rw [enumI_len] at iv; exact iv)
theorem comp_enumN {xs : List PV} (Iv : Nat → Sto → List PV → Prop) (h0 : Iv 0 S []) (hs : ∀ i x S acc, xs[i]? = some x → Iv i S acc → g (.many [.int ((N + i : Nat) : Int), x]) ρ S fun ρ2 S2 => at' ρ2 S2 fun b S3 => br b (ae ρ2 S3 fun y S4 => acc.length < sizeLine ∧ Iv (i + 1) S4 (acc ++ [y])) (Iv (i + 1) S3 acc))
    (hd : ∀ S acc, Iv xs.length S acc → R acc S) : aComp cT (enumI N xs) g at' ae ρ S R :=
  comp_inv Iv h0 (fun _ _ _ _ => trivial) (fun i it S acc e iv => by
    obtain ⟨x, hx, rfl⟩ := enumI_get e
    exact hs i x S acc hx iv) fun S acc iv => hd S acc (by rw [enumI_len] at iv; exact iv)
end
theorem iLa (xs ys : List Int) : iL (xs ++ ys) = iL xs ++ iL ys := List.map_append ..
/-- what stands in a tuple that is heard -/
inductive El : PV → Prop where
  | int (i : Int) : El (.int i)
  | bl (b : Bool) : El (.bl b)
  | non : El .non
  | tup (xs : List PV) : El (.tup xs)
/-- what may be heard -/
inductive Hv : PV → Prop where
  | tup (xs : List PV) : (∀ x ∈ xs, El x) → xs.length ≤ 3000 → Hv (.tup xs)
  | int (i : Int) : Hv (.int i)
  | bl (b : Bool) : Hv (.bl b)
  | non : Hv .non
  | str (s : Str) : Hv (.str s)
  | lst (xs : List PV) : Hv (.lst xs)
  | dct (ks : List Key) (xs : List PV) : Hv (.dct ks xs)
def isInt : PV → Bool
  | .int _ => true
  | _ => false
def isIdx (w : Nat) : PV → Bool
  | .int i => decide (0 ≤ i ∧ i < (w : Int))
  | _ => false
def isSym (m w : Nat) : PV → Bool
  | .tup xs => decide (xs.length = m) && xs.all (isIdx w)
  | _ => false
def asp_iit : AL := fun vs S P => ∃ v, vs = [v] ∧ El v ∧ P (.bl (isInt v)) S
theorem ok_iit (T : Txt K mg D) {f : Addr} {fd : FuncData} (F : Fun K "is_integer" "is_integer" st_is_integer f fd) : FnG P w K mg base CX0 (n + 1) f fd ["thing"] (cSp K asp_iit) := by
  refine oa_is_integer T F (fun vs S R h => ?_) (fun vs S R h => ?_)
  · obtain ⟨v, rfl, _⟩ := h
    rfl
  · obtain ⟨v, rfl, hv, ret⟩ := h
    dsimp only [sv_is_integer, pk]
    cases hv <;> (wtm_at "aw"; exact ret)
def asp_iix : AL := fun vs S P => ∃ (v : PV) (m : Nat), vs = [v, .int (m : Nat)] ∧ El v ∧ P (.bl (isIdx m v)) S
theorem ok_iix (T : Txt K mg D) (c0 : Cg P w K mg base CX0 n "is_integer" (cSp K asp_iit)) {f : Addr} {fd : FuncData} (F : Fun K "is_index" "is_index" st_is_index f fd) : FnG P w K mg base CX0 (n + 1) f fd ["thing", "limit"] (cSp K asp_iix) := by
  refine oa_is_index T (cg_is_integer := c0) F (fun vs S R h => ?_) (fun vs S R h => ?_)
  · obtain ⟨v, m, rfl, _⟩ := h
    rfl
  · obtain ⟨v, m, rfl, hv, ret⟩ := h
    dsimp only [sv_is_index, pk]
    wtm_at "aw"
    refine ⟨v, rfl, hv, ?_⟩
    cases hv with
    | int i =>
      have e : isIdx m (.int i) = decide (0 ≤ i ∧ i < (m : Int)) := rfl
      rw [e] at ret
      refine r_cT rfl ?_
      wtm_at "aw"
      refine r_br (fun h => ?_) (fun h => ?_)
      · wtm_at "aw"
        rw [show decide (i < (m : Int)) = decide (0 ≤ i ∧ i < (m : Int)) by rw [decide_eq_decide]; omega]
        exact ret
      · rw [decide_eq_false (by omega)] at ret
        exact ret
    | bl b => exact r_cF rfl ret
    | non => exact r_cF rfl ret
    | tup xs => exact r_cF rfl ret
def asp_sml : AL := fun vs S P => ∃ (v : PV) (m b : Nat), vs = [v, .int (m : Nat), .int (b : Nat)] ∧ Hv v ∧ P (.bl (isSym m b v)) S
theorem ok_sml (T : Txt K mg D) (c0 : Cg P w K mg base CX0 n "is_index" (cSp K asp_iix)) {f : Addr} {fd : FuncData} (F : Fun K "is_symbol_list" "is_symbol_list" st_is_symbol_list f fd) : FnG P w K mg base CX0 (n + 1) f fd ["thing", "length", "width"] (cSp K asp_sml) := by
  refine oa_is_symbol_list T (cg_is_index := c0) F (fun vs S R h => ?_) (fun vs S R h => ?_)
  · obtain ⟨v, m, b, rfl, _⟩ := h
    rfl
  · obtain ⟨v, m, b, rfl, hv, ret⟩ := h
    dsimp only [sv_is_symbol_list, pk]
    cases hv with
    | tup xs hx hl =>
      have e : isSym m b (.tup xs) = (decide (xs.length = m) && xs.all (isIdx b)) := rfl
      rw [e] at ret
      wtm_at "aw"
      refine r_br (fun h => ?_) (fun h => ?_)
      · rw [decide_eq_true (by omega : xs.length = m), Bool.true_and] at ret
        wtm_at "aw"
        refine comp_one (fun i S' acc => ∃ _ : Unit, S' = S ∧ acc = ((xs.take i).map (isIdx b)).map PV.bl) ⟨(), rfl, rfl⟩ ?_ ?_
        · rintro i x _ _ hi ⟨_, rfl, rfl⟩
          have hil := (List.getElem?_eq_some_iff.mp hi).1
          have hlen : (((xs.take i).map (isIdx b)).map PV.bl).length ≤ 3000 := by rw [List.length_map, List.length_map, List.length_take]; omega
          have enx : ((xs.take (i + 1)).map (isIdx b)).map PV.bl = ((xs.take i).map (isIdx b)).map PV.bl ++ [.bl (isIdx b x)] := by
            rw [List.take_succ, hi, Option.toList_some, List.map_append, List.map_append]
            rfl
          rw [enx]
          wtm_at "aw"
          refine ⟨x, b, rfl, hx x (List.mem_of_getElem? hi), ?_⟩
          wtm_at "aw"
          exact ⟨(), rfl, rfl⟩
        · rintro _ _ ⟨_, rfl, rfl⟩
          rw [List.take_length]
          wtm_at "aw"
          refine ⟨_, rfl, ?_⟩
          dsimp only
          rw [List.all_map]
          exact ret
      · rw [decide_eq_false (by omega), Bool.false_and] at ret
        exact ret
    | int i => wtm_at "aw"; exact ret
    | bl i => wtm_at "aw"; exact ret
    | non => wtm_at "aw"; exact ret
    | str i => wtm_at "aw"; exact ret
    | lst i => wtm_at "aw"; exact ret
    | dct ks xs => wtm_at "aw"; exact ret
/-- a tuple's ints -/
def intsP : List PV → Option (List Int)
  | [] => some []
  | .int i :: r => (intsP r).map (i :: ·)
  | _ => none
theorem intsP_iL : ∀ t : List Int, intsP (iL t) = some t
  | [] => rfl
  | i :: t => by
    show (intsP (iL t)).map (i :: ·) = _
    rw [intsP_iL t]
    rfl
theorem intsP_some : ∀ {xs : List PV} {t : List Int}, intsP xs = some t → xs = iL t
  | [], t, h => by cases h; rfl
  | .int i :: r, t, h => by
    have h : (intsP r).map (i :: ·) = some t := h
    obtain ⟨u, hu, rfl⟩ := Option.map_eq_some_iff.mp h
    rw [intsP_some hu]
    rfl
  | .non :: _, _, h => nomatch h
  | .bl _ :: _, _, h => nomatch h
  | .str _ :: _, _, h => nomatch h
  | .tup _ :: _, _, h => nomatch h
  | .lst _ :: _, _, h => nomatch h
  | .scr _ :: _, _, h => nomatch h
  | .own _ :: _, _, h => nomatch h
  | .ty _ :: _, _, h => nomatch h
  | .cls _ :: _, _, h => nomatch h
  | .kt _ :: _, _, h => nomatch h
  | .ins _ _ _ :: _, _, h => nomatch h
  | .dct _ _ :: _, _, h => nomatch h
theorem all_ints {b : Nat} : ∀ {xs : List PV}, xs.all (isIdx b) = true → ∃ t, xs = iL t ∧ ∀ x ∈ t, 0 ≤ x ∧ x < (b : Int)
  | [], _ => ⟨[], rfl, fun _ h => absurd h List.not_mem_nil⟩
  | x :: r, h => by
    rw [List.all_cons, Bool.and_eq_true] at h
    obtain ⟨t, rfl, ht⟩ := all_ints h.2
    have hx := h.1
    cases x with
    | int i =>
      have hi : 0 ≤ i ∧ i < (b : Int) := of_decide_eq_true hx
      exact ⟨i :: t, rfl, fun z hz => (List.mem_cons.mp hz).elim (fun e => e ▸ hi) (ht z)⟩
    | _ => exact absurd hx (by simp [isIdx])
theorem isIdx_ints {b : Nat} {t : List Int} (h : ∀ x ∈ t, 0 ≤ x ∧ x < (b : Int)) : (iL t).all (isIdx b) = true := by
  rw [List.all_map, List.all_eq_true]
  intro x hx
  exact decide_eq_true (h x hx)
/-- what is known of a round -/
def oP : Option (List Int) → PV
  | none => .non
  | some t => tupP t
def kOf (b m : Nat) : PV → Option (List Int)
  | .tup xs => if isSym m b (.tup xs) = true then intsP xs else none
  | _ => none
theorem oP_kOf (b m : Nat) (v : PV) : oP (kOf b m v) = if isSym m b v = true then v else .non := by
  cases v with
  | tup xs =>
    show oP (if isSym m b (.tup xs) = true then intsP xs else none) = _
    by_cases h : isSym m b (.tup xs) = true
    · rw [if_pos h, if_pos h]
      have h2 : (decide (xs.length = m) && xs.all (isIdx b)) = true := h
      rw [Bool.and_eq_true] at h2
      obtain ⟨t, rfl, _⟩ := all_ints h2.2
      rw [intsP_iL]
      rfl
    · rw [if_neg h, if_neg h]
      rfl
  | _ => rfl
theorem kOf_some {b m : Nat} {v : PV} {t : List Int} (h : kOf b m v = some t) : v = tupP t ∧ t.length = m ∧ ∀ x ∈ t, 0 ≤ x ∧ x < (b : Int) := by
  cases v with
  | tup xs =>
    have h : (if isSym m b (.tup xs) = true then intsP xs else none) = some t := h
    by_cases hs : isSym m b (.tup xs) = true
    · rw [if_pos hs] at h
      have := intsP_some h
      subst this
      have h2 : (decide ((iL t).length = m) && (iL t).all (isIdx b)) = true := hs
      rw [Bool.and_eq_true] at h2
      have hl := of_decide_eq_true h2.1
      rw [List.length_map] at hl
      obtain ⟨u, e, hu⟩ := all_ints h2.2
      have : t = u := Option.some.inj ((intsP_iL t).symm.trans ((congrArg intsP e).trans (intsP_iL u)))
      subst this
      exact ⟨rfl, hl, hu⟩
    · rw [if_neg hs] at h; cases h
  | _ => exact nomatch h
theorem kOf_tup {b m : Nat} {t : List Int} (hl : t.length = m) (h : ∀ x ∈ t, 0 ≤ x ∧ x < (b : Int)) : kOf b m (tupP t) = some t := by
  show (if isSym m b (tupP t) = true then intsP (iL t) else none) = some t
  rw [if_pos, intsP_iL]
  show (decide ((iL t).length = m) && (iL t).all (isIdx b)) = true
  rw [isIdx_ints h, List.length_map, hl, decide_eq_true rfl]
  rfl
def knO (b : Nat) : Nat → List PV → LS.Kn
  | _, [] => []
  | i, v :: r => kOf b (i + 1) v :: knO b (i + 1) r
theorem knO_len (b : Nat) : ∀ (i : Nat) (vs : List PV), (knO b i vs).length = vs.length
  | _, [] => rfl
  | i, v :: r => by rw [knO, List.length_cons, knO_len b, List.length_cons]
theorem knO_at (b : Nat) : ∀ (i : Nat) (vs : List PV) (k : Nat) (v : PV), vs[k]? = some v → (knO b i vs)[k]? = some (kOf b (i + k + 1) v)
  | _, [], _, _, h => nomatch h
  | i, v :: r, 0, _, h => by cases h; rfl
  | i, v :: r, k + 1, u, h => by
    rw [knO, List.getElem?_cons_succ, knO_at b (i + 1) r k u h, show i + 1 + k + 1 = i + (k + 1) + 1 by omega]
def asp_lhd : AL := fun vs S P => ∃ (hs : List PV) (b : Nat), vs = [.tup hs, .int (b : Nat)] ∧ (∀ v ∈ hs, Hv v) ∧ hs.length ≤ 30 ∧ P (.lst ((knO b 0 hs).map oP)) S
theorem ok_lhd (T : Txt K mg D) (c0 : Cg P w K mg base CX0 n "is_symbol_list" (cSp K asp_sml)) {f : Addr} {fd : FuncData} (F : Fun K "lists_heard" "lists_heard" st_lists_heard f fd) : FnG P w K mg base CX0 (n + 1) f fd ["letters", "width"] (cSp K asp_lhd) := by
  refine oa_lists_heard T (cg_is_symbol_list := c0) F (fun vs S R h => ?_) (fun vs S R h => ?_)
  · obtain ⟨hs, b, rfl, _⟩ := h
    rfl
  · obtain ⟨hs, b, rfl, hh, hl, ret⟩ := h
    dsimp only [sv_lists_heard, pk]
    wtm_at "aw"
    refine comp_enumN (fun i S' acc => ∃ _ : Unit, S' = S ∧ acc = ((knO b 0 hs).take i).map oP) ⟨(), rfl, rfl⟩ ?_ ?_
    · rintro i v S _ hi ⟨_, rfl, rfl⟩
      have hil := (List.getElem?_eq_some_iff.mp hi).1
      have hlen : (((knO b 0 hs).take i).map oP).length ≤ 30 := by rw [List.length_map, List.length_take, knO_len]; omega
      have hk := knO_at b 0 hs i v hi
      rw [Nat.zero_add] at hk
      have enx : ((knO b 0 hs).take (i + 1)).map oP = ((knO b 0 hs).take i).map oP ++ [if isSym (i + 1) b v = true then v else .non] := by
        rw [List.take_succ, hk, Option.toList_some, List.map_append, ← oP_kOf]
        rfl
      rw [enx, show ((1 + i : Nat) : Int) = ((i + 1 : Nat) : Int) by omega]
      wtm_at "aw"
      refine ⟨fun p S' => p = (if isSym (i + 1) b v = true then v else .non) ∧ S' = S, ?_, ?_⟩
      · wtm_at "aw"
        refine ⟨v, i + 1, b, rfl, hh v (List.mem_of_getElem? hi), ?_⟩
        wtm_at "aw"
        by_cases e : isSym (i + 1) b v = true
        · refine r_cT e ?_
          rw [if_pos e]
          exact ⟨rfl, rfl⟩
        · refine r_cF (by simpa using e) ?_
          rw [if_neg e]
          exact ⟨rfl, rfl⟩
      · rintro _ _ ⟨rfl, rfl⟩
        wtm_at "aw"
        exact ⟨(), rfl, rfl⟩
    · rintro _ _ ⟨_, rfl, rfl⟩
      rw [List.take_of_length_le (by rw [knO_len]; exact Nat.le_refl _)]
      wtm_at "aw"
      exact ret
end
end K16

namespace K16
open LS
section
variable {P : Program} {w : World} {K : PySem.W.Frag} {mg : Str → Option Value} {base : Heap} {D : Ad} {n : Nat}
structure KnOk (b : Nat) (kn : LS.Kn) : Prop where
  len : ∀ (i : Nat) (u : List Int), kn[i]? = some (some u) → u.length = i + 1
  ok : ∀ (i : Nat) (u : List Int), kn[i]? = some (some u) → ∀ x ∈ u, 0 ≤ x ∧ x < (b : Int)
  few : kn.length ≤ 30
def Nx (kn : LS.Kn) (s : List Int) (x : Int) : Prop := ∃ (i : Nat) (u : List Int), s.length ≤ i ∧ kn[i]? = some (some u) ∧ u.take s.length = s ∧ u[s.length]? = some x
def asp_nxs : AL := fun vs S P => ∃ (b : Nat) (kn : LS.Kn) (s : List Int), vs = [.lst (kn.map oP), tupP s] ∧ KnOk b kn ∧ s.length ≤ 30 ∧ ∀ ys : List Int, ys.Pairwise (· < ·) → (∀ x, x ∈ ys ↔ Nx kn s x) → P (.own S.length) (S ++ [.lst (iL ys)])
theorem ok_nxs (T : Txt K mg D) {f : Addr} {fd : FuncData} (F : Fun K "next_symbols" "next_symbols" st_next_symbols f fd) : FnG P w K mg base CX0 (n + 1) f fd ["known", "symbols"] (cSp K asp_nxs) := by
  refine oa_next_symbols T F (fun vs S R h => ?_) (fun vs S R h => ?_)
  · obtain ⟨b, kn, s, rfl, _⟩ := h
    rfl
  · obtain ⟨b, kn, s, rfl, hk, hs, ret⟩ := h
    have hfew := hk.few
    dsimp only [sv_next_symbols, pk, tupP]
    wtm_at "aw"
    rw [cut_from _ (by omega), List.length_map, Int.toNat_natCast]
    refine compI_one (fun i S' acc => ∃ _ : Unit, S' = S ∧ acc.length ≤ i ∧ acc.length ≤ 30 ∧ ∀ x, x ∈ acc ↔ ∃ (j : Nat) (u : List Int), s.length ≤ j ∧ j < s.length + i ∧ kn[j]? = some (some u) ∧ u.take s.length = s ∧ u[s.length]? = some x) ⟨(), rfl, Nat.le_refl _, by decide, fun x => ⟨fun h => absurd h List.not_mem_nil, fun ⟨j, u, h1, h2, _⟩ => by omega⟩⟩ (fun i S acc ⟨_, _, _, h, _⟩ => by omega) ?_ ?_
    · rintro i v S acc hi ⟨_, rfl, hl1, hl2, hm⟩
      obtain ⟨o, ho, rfl⟩ : ∃ o, kn[s.length + i]? = some o ∧ oP o = v := by
        rw [List.getElem?_drop, List.getElem?_map] at hi
        exact Option.map_eq_some_iff.mp hi
      have hil := (List.getElem?_eq_some_iff.mp ho).1
      have same : (∀ u, o = some u → u.take s.length = s → False) → ∀ x, x ∈ acc ↔ ∃ (j : Nat) (u : List Int), s.length ≤ j ∧ j < s.length + (i + 1) ∧ kn[j]? = some (some u) ∧ u.take s.length = s ∧ u[s.length]? = some x := fun no x => by
        rw [hm x]
        constructor
        · rintro ⟨j, u, h1, h2, h3⟩
          exact ⟨j, u, h1, by omega, h3⟩
        · rintro ⟨j, u, h1, h2, h3, h4, h5⟩
          by_cases e : j = s.length + i
          · subst e
            rw [ho] at h3
            exact (no u (Option.some.inj h3) h4).elim
          · exact ⟨j, u, h1, by omega, h3, h4, h5⟩
      cases o with
      | none =>
        dsimp only [oP]
        wtm_at "aw"
        exact ⟨(), rfl, by omega, hl2, same fun u e _ => nomatch e⟩
      | some u =>
        have hul := hk.len _ _ ho
        have e1 : eqOk (.tup (iL (u.take s.length))) := eqOk_iT _
        have e2 : eqOk (.tup (iL s)) := eqOk_iT _
        have ec : cutP (iL u) none (some (s.length : Int)) = iL (u.take s.length) := by
          rw [cut_take _ (by omega), Int.toNat_natCast, ← List.map_take]
        have ev := eqv_iT (u.take s.length) s
        obtain ⟨z, hz⟩ : ∃ z, u[s.length]? = some z := ⟨_, List.getElem?_eq_getElem (by omega)⟩
        dsimp only [oP, tupP]
        have hil10 : i + 1 ≤ 30 := by have := (List.getElem?_eq_some_iff.mp hi).1; rw [List.length_drop, List.length_map] at this; omega
        wtm_at "aw"
        rw [ec]
        wtm_at "aw"
        change br (PyData.eqv (dat (.tup (iL (u.take s.length)))) (dat (.tup (iL s)))) _ _
        rw [ev]
        refine r_br (fun h => ?_) (fun h => ?_)
        · wtm_at "aw"
          refine r_onO (x := .int z) (L5.at_nat (by rw [List.getElem?_map, hz]; rfl)) ?_
          refine ⟨(), rfl, by rw [List.length_append, List.length_singleton]; omega, by rw [List.length_append, List.length_singleton]; omega, fun x => ?_⟩
          rw [List.mem_append, List.mem_singleton, hm x]
          constructor
          · rintro (⟨j, u', h1, h2, h3⟩ | rfl)
            · exact ⟨j, u', h1, by omega, h3⟩
            · exact ⟨s.length + i, u, by omega, by omega, ho, h, hz⟩
          · rintro ⟨j, u', h1, h2, h3, h4, h5⟩
            by_cases e : j = s.length + i
            · subst e
              rw [ho] at h3
              have := Option.some.inj (Option.some.inj h3)
              subst this
              rw [hz] at h5
              exact .inr (Option.some.inj h5).symm
            · exact .inl ⟨j, u', h1, by omega, h3, h4, h5⟩
        · wtm_at "aw"
          exact ⟨(), rfl, by omega, hl2, same fun u' e q => h (by cases e; exact q)⟩
    · rintro S acc ⟨_, rfl, hl1, hl2, hm⟩ ys h1 h2
      wtm_at "aw"
      refine ret ys h1 fun x => (h2 x).trans ((hm x).trans ?_)
      rw [List.length_drop, List.length_map]
      constructor
      · rintro ⟨j, u, a1, a2, a3⟩
        exact ⟨j, u, a1, a3⟩
      · rintro ⟨j, u, a1, a3⟩
        have := (List.getElem?_eq_some_iff.mp a3.1).1
        exact ⟨j, u, a1, by omega, a3⟩
/-- the search's own object -/
def bP : LS.Bst → PV
  | none => .non
  | some (c, u) => .tup [.int (c : Nat), tupP u]
@[reducible] def srI (D : Ad) (kn : LS.Kn) (b f : Nat) (bst : LS.Bst) : AO := .ins D.ListSearch nm_ListSearch [.lst (kn.map oP), .int (b : Nat), .kt [], .non, .own f, bP bst]
@[reducible] def srAt (D : Ad) (S : Sto) (k : Nat) (kn : LS.Kn) (b f : Nat) (bst : LS.Bst) : Prop := sgetI S k = some (D.ListSearch, nm_ListSearch, [.lst (kn.map oP), .int (b : Nat), .kt [], .non, .own f, bP bst])
theorem sub_len : ∀ {ys L : List Int}, ys.Nodup → (∀ y ∈ ys, y ∈ L) → ys.length ≤ L.length
  | [], _, _, _ => Nat.zero_le _
  | y :: ys, L, hn, h => by
    rw [List.nodup_cons] at hn
    have hy := h y List.mem_cons_self
    have ih := sub_len (ys := ys) (L := L.erase y) hn.2 fun z hz => (List.mem_erase_of_ne fun e => hn.1 (by rw [← e]; exact hz)).mpr (h z (List.mem_cons_of_mem _ hz))
    rw [List.length_erase_of_mem hy] at ih
    have := List.length_pos_of_mem hy
    rw [List.length_cons]
    omega
theorem asc_nodup {ys : List Int} (h : ys.Pairwise (· < ·)) : ys.Nodup := h.imp fun h e => by omega
theorem asc_len : ∀ {ys : List Int} {lo hi : Int}, ys.Pairwise (· < ·) → (∀ y ∈ ys, lo ≤ y ∧ y < hi) → (ys.length : Int) ≤ max 0 (hi - lo)
  | [], lo, hi, _, _ => by simp; omega
  | y :: ys, lo, hi, hp, h => by
    rw [List.pairwise_cons] at hp
    have ih := asc_len (ys := ys) (lo := y + 1) (hi := hi) hp.2 fun z hz => ⟨hp.1 z hz, (h z (List.mem_cons_of_mem _ hz)).2⟩
    have := h y List.mem_cons_self
    rw [List.length_cons]
    omega
theorem le_lt : ∀ {cs : List Int}, cs.Pairwise (· ≤ ·) → cs.Nodup → cs.Pairwise (· < ·)
  | [], _, _ => .nil
  | c :: cs, h, k => by
    rw [List.pairwise_cons] at h ⊢
    rw [List.nodup_cons] at k
    refine ⟨fun x hx => ?_, le_lt h.2 k.2⟩
    have h1 := h.1 x hx
    have h2 : c ≠ x := fun e => k.1 (e ▸ hx)
    omega
def asp_cnd0 (D : Ad) : AL := fun vs S P => ∃ (k b f : Nat) (kn : LS.Kn) (bst : LS.Bst) (s : List Int), vs = [.own k, tupP s] ∧ srAt D S k kn b f bst ∧ KnOk b kn ∧ 1 ≤ b ∧ b ≤ 1000000000000 ∧ s.length ≤ 30 ∧ ∀ cs J, LS.Cand kn (b : Int) s cs → cs.length ≤ 51 → P (.lst (iL cs)) (S ++ J)
theorem eqOk_i (l : Int) : eqOk (.int l) := ⟨rfl, by simp [SeqAt.shaped, PyData.canLay0, PyData.depth, dat]⟩
theorem any_iL (a : Int) : ∀ xs : List Int, ((iL xs).any fun z => PyData.eqv (dat z) (dat (.int a))) = decide (a ∈ xs)
  | [] => by simp
  | x :: xs => by
    have ih := any_iL a xs
    show (PyData.eqv (dat (.int x)) (dat (.int a)) || _) = _
    rw [ih]
    have e : PyData.eqv (dat (.int x)) (dat (.int a)) = decide (x = a) := by rw [dat, dat]; simp [PyData.eqv]; rfl
    rw [e, ← Bool.decide_or, decide_eq_decide, List.mem_cons]
    exact ⟨fun h => h.imp Eq.symm id, fun h => h.imp Eq.symm id⟩
theorem ok_cnd0 (T : Txt K mg D) (c0 : Cg P w K mg base CX0 n "next_symbols" (cSp K asp_nxs)) {f : Addr} {fd : FuncData} (F : Fun K "candidates" "ListSearch.candidates" st_ListSearch_candidates f fd) : FnG P w K mg base CX0 (n + 1) f fd ["self", "symbols"] (cSp K (asp_cnd0 D)) := by
  refine oa_ListSearch_candidates T (cg_next_symbols := c0) F (fun vs S R h => ?_) (fun vs S R h => ?_)
  · obtain ⟨k, b, f, kn, bst, s, rfl, _⟩ := h
    rfl
  · obtain ⟨k, b, f, kn, bst, s, rfl, hk, hkn, hb1, hb2, hs, ret⟩ := h
    dsimp only [sv_ListSearch_candidates, pk, tupP]
    have hlr : (iL s).length = s.length := List.length_map ..
    wtm_at "aw"
    refine r_bn (by show ¬ (((iL s).length : Int) < 0); omega) ?_
    wtm_at "aw"
    refine ⟨fun p S' => p = .non ∧ S' = S, ?_, ?_⟩
    · wtm_at "aw"
      refine r_br (fun h => ?_) (fun h => ?_)
      · wtm_at "aw"
      · wtm_at "aw"
    · rintro _ S ⟨rfl, rfl⟩
      wtm_at "aw"
      refine ⟨b, kn, s, rfl, hkn, hs, fun ys h1 h2 => ?_⟩
      rw [hlr]
      have hyr : ∀ y ∈ ys, 0 ≤ y ∧ y < (b : Int) := fun y hy => by
        obtain ⟨i, u, _, a2, _, a4⟩ := (h2 y).mp hy
        exact hkn.ok i u a2 y (List.mem_of_getElem? a4)
      have hyl : ys.length ≤ 30 := by
        have h3 := sub_len (L := kn.filterMap fun o => o.bind fun u => u[s.length]?) (asc_nodup h1) fun y hy => by
          obtain ⟨i, u, _, a2, _, a4⟩ := (h2 y).mp hy
          exact List.mem_filterMap.mpr ⟨some u, List.mem_of_getElem? a2, a4⟩
        have h4 := List.length_filterMap_le (fun o : Option (List Int) => o.bind fun u => u[s.length]?) kn
        have h5 := hkn.few
        omega
      have hq : eqOk (.lst (iL ys)) := eqOk_iL ys
      have hL := sget_new S (iL ys)
      wtm_at "aw"
      refine ⟨fun q ρ S' => ∃ l : Nat, (ρ = [some (.own k), some (.tup (iL s)), some (.int (s.length : Nat)), some .non, some (.own S.length), some (.int (l : Nat)), none] ∧ S' = S ++ [.lst (iL ys)]) ∧ q = b - l ∧ l ≤ b ∧ ∀ y : Int, 0 ≤ y → y < (l : Int) → y ∈ ys, ⟨_, 0, ⟨rfl, rfl⟩, rfl, Nat.zero_le _, fun y a1 a2 => by omega⟩, ?_⟩
      rintro q _ _ ⟨l, ⟨rfl, rfl⟩, rfl, hlb, hall⟩
      have hqi : eqOk (.int (l : Nat)) := eqOk_i l
      have hqn : eqOk .non := ⟨rfl, by decide +kernel⟩
      wtm_at "aw"
      rw [any_iL]
      refine r_br (fun hin => ?_) (fun hin => ?_)
      · wtm_at "aw"
        have hlt := (hyr _ hin).2
        refine ⟨fun ρ S' => ρ = [some (.own k), some (.tup (iL s)), some (.int (s.length : Nat)), some .non, some (.own S.length), some (.int ((l + 1 : Nat) : Int)), none] ∧ S' = S ++ [.lst (iL ys)], ?_, ?_⟩
        · rintro _ _ ⟨rfl, rfl⟩
          exact ⟨b - (l + 1), by omega, l + 1, ⟨rfl, rfl⟩, rfl, by omega, fun y a1 a2 => by
            by_cases e : y < (l : Int)
            · exact hall y a1 e
            · rw [show y = (l : Int) by omega]; exact hin⟩
        · wtm_at "aw"
          exact ⟨rfl, rfl⟩
      · have hk2 : sgetI (S ++ [.lst (iL ys)]) k = some (D.ListSearch, nm_ListSearch, [.lst (kn.map oP), .int (b : Nat), .kt [], .non, .own f, bP bst]) := sgetI_at (by rw [List.getElem?_append_left (sgetI_lt hk)]; exact sgetI_eq hk)
        obtain ⟨zs, hzs⟩ : ∃ zs : List Int, zs = if l < b then ys ++ [(l : Int)] else ys := ⟨_, rfl⟩
        wtm_at "aw"
        refine ⟨fun ρ S' => ρ = [some (.own k), some (.tup (iL s)), some (.int (s.length : Nat)), some .non, some (.own S.length), some (.int (l : Nat)), none] ∧ S' = S ++ [.lst (iL zs)], ?_, ?_⟩
        · wtm_at "aw"
          refine r_br (fun h => ?_) (fun h => ?_)
          · have hln : (iL ys).length ≤ 50 := by rw [List.length_map]; omega
            wtm_at "aw"
            rw [hzs, if_pos (by omega), sput_new]
            exact congrArg (fun z => S ++ [AO.lst z]) (iLa ys [(l : Int)]).symm
          · wtm_at "aw"
            rw [hzs, if_neg (by omega)]
        · rintro _ _ ⟨rfl, rfl⟩
          have hzl : zs.length ≤ 51 := by
            rw [hzs]
            split
            · rw [List.length_append, List.length_singleton]; omega
            · omega
          have hL2 := sget_new S (iL zs)
          have hqn : eqOk .non := ⟨rfl, by decide +kernel⟩
          wtm_at "aw"
          refine comp_inv (fun i S' acc => ∃ _ : Unit, S' = S ++ [.lst (iL zs)] ∧ acc = iL (zs.take i)) ⟨(), rfl, rfl⟩ (fun i S' acc ⟨_, e, _⟩ => e ▸ hL2) ?_ ?_
          · rintro i it _ _ hi ⟨_, rfl, rfl⟩
            obtain ⟨p, hp, rfl⟩ := one_get hi
            obtain ⟨z, hz, rfl⟩ := map_at hp
            have hqi := eqOk_i z
            have hil := (List.getElem?_eq_some_iff.mp hz).1
            have hln : (iL (zs.take i)).length ≤ 60 := by rw [List.length_map, List.length_take]; omega
            have enx : iL (zs.take (i + 1)) = iL (zs.take i) ++ [.int z] := by rw [List.take_succ, hz, Option.toList_some, iLa]; rfl
            rw [enx]
            wtm_at "aw"
            exact ⟨(), rfl, rfl⟩
          · rintro _ _ ⟨_, rfl, rfl⟩
            rw [List.length_map, List.length_map, List.take_length]
            wtm_at "aw"
            refine ⟨zs, rfl, by omega, fun cs hperm hsort => ?_⟩
            wtm_at "aw"
            have hyn : ys.Nodup := h1.imp fun h => by omega
            have hzn : zs.Nodup := by
              rw [hzs]
              split
              · rw [List.nodup_append]
                exact ⟨hyn, by simp, fun x hx z hz e => hin (by rw [List.mem_singleton.mp hz] at e; exact e ▸ hx)⟩
              · exact hyn
            have hmem : ∀ x, x ∈ cs ↔ x ∈ ys ∨ (l < b ∧ x = (l : Int)) := fun x => by
              rw [hperm.mem_iff, hzs]
              by_cases e : l < b
              · rw [if_pos e, List.mem_append, List.mem_singleton]
                exact ⟨fun h => h.imp id fun h => ⟨e, h⟩, fun h => h.imp id fun h => h.2⟩
              · rw [if_neg e]
                exact ⟨.inl, fun h => h.elim id fun h => absurd h.1 e⟩
            refine ret cs [.lst (iL zs)] ⟨le_lt hsort (hperm.nodup_iff.mpr hzn), fun x hx => ?_, fun x a0 a1 hx => ?_⟩ (by rw [hperm.length_eq]; exact hzl)
            · rcases (hmem x).mp hx with h | ⟨h, rfl⟩
              · exact hyr x h
              · omega
            · have nx : x ∉ ys := fun h => hx ((hmem x).mpr (.inl h))
              have lx : ¬ x < (l : Int) := fun h => nx (hall x a0 h)
              refine ⟨⟨l, (hmem l).mpr (.inr ⟨by omega, rfl⟩), ?_⟩, fun i u b1 b2 b3 b4 => nx ((h2 x).mpr ⟨i, u, b1, b2, b3, b4⟩)⟩
              have : x ≠ (l : Int) := fun e => hx ((hmem x).mpr (.inr ⟨by omega, e⟩))
              omega
end
end K16

namespace K16
open LS
section
variable {P : Program} {w : World} {K : PySem.W.Frag} {mg : Str → Option Value} {base : Heap} {D : Ad} {n : Nat}
def asp_cnd (D : Ad) : AL := fun vs S P => ∃ (k b f : Nat) (kn : LS.Kn) (bst : LS.Bst) (s : List Int), vs = [.own k, tupP s] ∧ srAt D S k kn b f bst ∧ KnOk b kn ∧ 1 ≤ b ∧ b ≤ 1000000000000 ∧ s.length ≤ 30 ∧ ∀ cs, LS.Cand kn (b : Int) s cs → cs.length ≤ 51 → P (.lst (iL cs)) S
theorem cnd_weak {k : Nat} {f : Addr} {fd : FuncData} {ps : List Str} (F : FnG P w K mg base CX0 k f fd ps (cSp K (asp_cnd0 D))) : FnG P w K mg base CX0 k f fd ps (cSp K (asp_cnd D)) :=
  fnG_weak (fnG_trimC F) fun vs S R ⟨k, b, f, kn, bst, s, h1, h2, h3, h4, h5, h6, ret⟩ hc => ⟨k, b, f, kn, bst, s, h1, h2, h3, h4, h5, h6, fun cs J a b => r_trimS (blws_ints _ _) hc (ret cs a b)⟩
def asp_isp (D : Ad) : AL := fun vs S P => ∃ (k b f i : Nat) (v : Bool) (kn : LS.Kn) (bst : LS.Bst), vs = [.own k, .int (i : Nat), .bl v] ∧ srAt D S k kn b f bst ∧ sgetD S f = some ([], []) ∧ P (.bl true) S
theorem ok_isp (T : Txt K mg D) {f : Addr} {fd : FuncData} (F : Fun K "is_possible" "ListSearch.is_possible" st_ListSearch_is_possible f fd) : FnG P w K mg base CX0 (n + 1) f fd ["self", "number", "is_same"] (cSp K (asp_isp D)) := by
  refine oa_ListSearch_is_possible T F (fun vs S R h => ?_) (fun vs S R h => ?_)
  · obtain ⟨k, b, f, i, v, kn, bst, rfl, _⟩ := h
    rfl
  · obtain ⟨k, b, f, i, v, kn, bst, rfl, hk, hf, ret⟩ := h
    dsimp only [sv_ListSearch_is_possible, pk]
    wtm_at "aw"
    refine .miss List.not_mem_nil ?_
    wtm_at "aw"
    exact ret
def asp_ini (D : Ad) : AL := fun vs S P => ∃ (k b : Nat) (kn : LS.Kn), vs = [.own k, .lst (kn.map oP), .int (b : Nat), .kt [], .non] ∧ sgetI S k = some (D.ListSearch, nm_ListSearch, []) ∧ P .non (spo S k (srI D kn b S.length none) ++ [.dct [] []])
theorem spo_app (S J : Sto) (k : Nat) (o : AO) (h : k < S.length) : spo (S ++ J) k o = spo S k o ++ J := by rw [spo_eq, spo_eq, List.set_append_left _ _ h]
theorem spo_len (S : Sto) (k : Nat) (o : AO) : (spo S k o).length = S.length := by rw [spo_eq, List.length_set]
theorem ok_ini (T : Txt K mg D) {f : Addr} {fd : FuncData} (F : Fun K "__init__" "ListSearch.__init__" st_ListSearch___init__ f fd) : FnG P w K mg base CX0 (n + 1) f fd ["self", "known", "width", "start", "other"] (cSp K (asp_ini D)) := by
  refine oa_ListSearch___init__ T F (fun vs S R h => ?_) (fun vs S R h => ?_)
  · obtain ⟨k, b, kn, rfl, _⟩ := h
    rfl
  · obtain ⟨k, b, kn, rfl, h0, ret⟩ := h
    have hk := sgetI_lt h0
    dsimp only [sv_ListSearch___init__, pk]
    wtm_at "aw"
    refine r_stF rfl (sgetI_spo_same hk) (by with_unfolding_all rfl) rfl ?_
    rw [spo_spo]
    wtm_at "aw"
    refine r_stF rfl (sgetI_spo_same hk) (by with_unfolding_all rfl) rfl ?_
    rw [spo_spo]
    wtm_at "aw"
    refine r_stF rfl (sgetI_spo_same hk) (by with_unfolding_all rfl) rfl ?_
    rw [spo_spo]
    have app : ∀ (J : Sto) (xs : List PV), sgetI (spo S k (.ins D.ListSearch nm_ListSearch xs) ++ J) k = some (D.ListSearch, nm_ListSearch, xs) := fun J xs => sgetI_at (by rw [List.getElem?_append_left (by rw [spo_len]; exact hk)]; exact sgetI_eq (sgetI_spo_same hk))
    wtm_at "aw"
    refine r_stF rfl (app _ _) (by with_unfolding_all rfl) rfl ?_
    rw [spo_app _ _ _ _ (by rw [spo_len]; exact hk), spo_spo, spo_len]
    wtm_at "aw"
    refine r_stF rfl (app _ _) (by with_unfolding_all rfl) rfl ?_
    rw [spo_app _ _ _ _ (by rw [spo_len]; exact hk), spo_spo]
    wtm_at "aw"
    exact ret
def asp_dsc (D : Ad) (d : Nat) : AL := fun vs S P => ∃ (k b f : Nat) (most : Int) (kn : LS.Kn) (bst : LS.Bst) (s : List Int), vs = [.own k, tupP s, .int ((LS.dfc kn s s.length : Nat) : Int), .int most] ∧ k ≠ f ∧ srAt D S k kn b f bst ∧ sgetD S f = some ([], []) ∧ KnOk b kn ∧ 1 ≤ b ∧ b ≤ 1000000000000 ∧ s.length ≤ kn.length ∧ kn.length ≤ s.length + d ∧ (∀ x ∈ s, 0 ≤ x ∧ x < (b : Int)) ∧
  ∀ b', LS.Res kn most (LS.Ext (b : Int) kn.length s) bst b' → P .non (spo S k (srI D kn b f b'))
theorem ok_dsc_step (T : Txt K mg D) (d : Nat) {prev : AL} (hp : ∀ vs S R, (∃ d', d = d' + 1 ∧ asp_dsc D d' vs S R) → prev vs S R) (c0 : Cm P w K mg base CX0 n D.ListSearch "candidates" (cSp K (asp_cnd D))) (c1 : Cm P w K mg base CX0 n D.ListSearch "is_possible" (cSp K (asp_isp D))) (c2 : Cm P w K mg base CX0 n D.ListSearch "descend" (cSp K prev))
    {f : Addr} {fd : FuncData} (F : Fun K "descend" "ListSearch.descend" st_ListSearch_descend f fd) : FnG P w K mg base CX0 (n + 1) f fd ["self", "symbols", "count", "most"] (cSp K (asp_dsc D d)) := by
  refine oa_ListSearch_descend T (cm_ListSearch_candidates := c0) (cm_ListSearch_is_possible := c1) (cm_ListSearch_descend := c2) F (fun vs S R h => ?_) (fun vs S R h => ?_)
  · obtain ⟨k, b, f, most, kn, bst, s, rfl, _⟩ := h
    rfl
  · obtain ⟨k, b, f, most, kn, bst, s, rfl, hkf, hk, hf, hkn, hb1, hb2, hs, hd, ho, ret⟩ := h
    have hkl := sgetI_lt hk
    have hfew := hkn.few
    have keep : spo S k (srI D kn b f bst) = S := by
      obtain ⟨hk2, e2⟩ := List.getElem?_eq_some_iff.mp (sgetI_eq hk)
      rw [spo_eq, show srI D kn b f bst = S[k] from e2.symm]
      exact List.set_getElem_self ..
    have hls : (iL s).length = s.length := List.length_map ..
    have hlk : (kn.map oP).length = kn.length := List.length_map ..
    have stay : ∀ h : LS.Res kn most (LS.Ext (b : Int) kn.length s) bst bst, R .non S := fun h => by
      have := ret bst h
      rw [keep] at this
      exact this
    dsimp only [sv_ListSearch_descend, pk, tupP]
    wtm_at "aw"
    refine r_br (fun h => ?_) (fun hm => ?_)
    · wtm_at "aw"
      exact stay (.over rfl hs h)
    · cases bst with
      | none =>
        replace hk : sgetI S k = some (D.ListSearch, nm_ListSearch, [.lst (kn.map oP), .int (b : Nat), .kt [], .non, .own f, .non]) := hk
        have hnb : ∀ c u, (none : LS.Bst) = some (c, u) → LS.dfc kn s s.length < c := fun _ _ e => nomatch e
        wtm_at "aw"
        rw [hls, hlk]
        refine r_br (fun he => ?_) (fun he => ?_)
        · wtm_at "aw"
          exact ret (some (LS.dfc kn s s.length, s)) (.leaf rfl (by omega) ho (by omega) hnb)
        · wtm_at "aw"
          refine ⟨k, b, f, kn, none, s, rfl, hk, hkn, hb1, hb2, by omega, fun cs hc hcl => ?_⟩
          wtm_at "aw"
          refine loop_one (xs := iL cs) (fun i ρ S' => ∃ (b1 : LS.Bst) (v4 v5 v6 : Option PV), (ρ = [some (.own k), some (.tup (iL s)), some (.int ((LS.dfc kn s s.length : Nat) : Int)), some (.int most), v4, v5, v6] ∧ S' = spo S k (srI D kn b f b1)) ∧ LS.Res kn most (LS.Upto (b : Int) kn.length s cs i) none b1) ⟨none, _, _, _, ⟨rfl, keep.symm⟩, LS.Upto.start⟩ ?_ ?_
          · rintro i x _ _ hx ⟨b1, v4, v5, v6, ⟨rfl, rfl⟩, hR⟩
            obtain ⟨z, hz, rfl⟩ := map_at hx
            have hzo := hc.ok z (List.mem_of_getElem? hz)
            have hk1 : srAt D (spo S k (srI D kn b f b1)) k kn b f b1 := sgetI_spo_same hkl
            have hf1 : sgetD (spo S k (srI D kn b f b1)) f = some ([], []) := sgetD_spo_ne hkf hf
            have hsl : (iL s).length ≤ 100 := by omega
            obtain ⟨o, hoo⟩ : ∃ o, kn[s.length]? = some o := ⟨_, List.getElem?_eq_getElem (by omega)⟩
            have hat : atI (kn.map oP) (s.length : Int) = some (oP o) := L5.at_nat (by rw [List.getElem?_map, hoo]; rfl)
            have el : iL s ++ [PV.int z] = iL (s ++ [z]) := (iLa s [z]).symm
            have hd1 : LS.dfc kn (s ++ [z]) (s ++ [z]).length = LS.dfc kn s s.length + if decide (o = some (s ++ [z])) = true then 0 else 1 := by
              rw [List.length_append, List.length_singleton, LS.dfc, LS.dfc_congr kn (t := s ++ [z]) (u := s) (n := s.length) (by rw [List.take_left, List.take_length])]
              unfold LS.hit
              rw [hoo, List.take_of_length_le (by rw [List.length_append]; exact Nat.le_refl _), show decide (some o = some (some (s ++ [z]))) = decide (o = some (s ++ [z])) by rw [decide_eq_decide, Option.some.injEq]]
            have e1 : eqOk (.tup (iL (s ++ [z]))) := eqOk_iT _
            have hln : (iL (s ++ [z])).length = s.length + 1 := by rw [List.length_map, List.length_append]; rfl
            wtm_at "aw"
            rw [hls, el]
            refine r_onO hat ?_
            cases o with
            | none =>
              dsimp only [oP]
              have hqn : eqOk .non := ⟨rfl, by decide +kernel⟩
              have ev : PyData.eqv (dat .non) (dat (.tup (iL (s ++ [z])))) = false := by rw [dat, dat]; simp [PyData.eqv]
              rw [show decide ((none : Option (List Int)) = some (s ++ [z])) = false from rfl] at hd1
              generalize false = same at *
              wtm_at "aw"
              rw [hln]
              change asp_isp D [PV.own k, PV.int ((s.length + 1 : Nat) : Int), PV.bl (PyData.eqv (dat .non) (dat (.tup (iL (s ++ [z])))))] _ _
              rw [ev]
              refine ⟨k, b, f, s.length + 1, same, kn, b1, rfl, hk1, hf1, ?_⟩
              wtm_at "aw"
              have hcast : ((LS.dfc kn s s.length : Nat) : Int) + (if (!same) = true then 1 else 0) = ((LS.dfc kn (s ++ [z]) (s ++ [z]).length : Nat) : Int) := by
                rw [hd1]
                cases same <;> simp
              rw [hcast]
              refine hp _ _ _ ⟨d - 1, by omega, k, b, f, most, kn, b1, s ++ [z], rfl, hkf, hk1, hf1, hkn, hb1, hb2, by rw [List.length_append, List.length_singleton]; omega, by rw [List.length_append, List.length_singleton]; omega, fun x hx => ?_, fun b' hb' => ?_⟩
              · rcases List.mem_append.mp hx with hx | hx
                · exact ho x hx
                · rw [List.mem_singleton.mp hx]; exact hzo
              · rw [spo_spo]
                wtm_at "aw"
                exact ⟨b', _, _, _, ⟨rfl, rfl⟩, LS.Upto.step hz hc.asc hR hb'⟩
            | some u =>
              dsimp only [oP, tupP]
              have e2 : eqOk (.tup (iL u)) := eqOk_iT _
              have ev := eqv_iT u (s ++ [z])
              rw [show decide (some u = some (s ++ [z])) = decide (u = s ++ [z]) by rw [decide_eq_decide, Option.some.injEq]] at hd1
              generalize decide (u = s ++ [z]) = same at *
              wtm_at "aw"
              rw [hln]
              change asp_isp D [PV.own k, PV.int ((s.length + 1 : Nat) : Int), PV.bl (PyData.eqv (dat (.tup (iL u))) (dat (.tup (iL (s ++ [z])))))] _ _
              rw [ev]
              refine ⟨k, b, f, s.length + 1, same, kn, b1, rfl, hk1, hf1, ?_⟩
              wtm_at "aw"
              have hcast : ((LS.dfc kn s s.length : Nat) : Int) + (if (!same) = true then 1 else 0) = ((LS.dfc kn (s ++ [z]) (s ++ [z]).length : Nat) : Int) := by
                rw [hd1]
                cases same <;> simp
              rw [hcast]
              refine hp _ _ _ ⟨d - 1, by omega, k, b, f, most, kn, b1, s ++ [z], rfl, hkf, hk1, hf1, hkn, hb1, hb2, by rw [List.length_append, List.length_singleton]; omega, by rw [List.length_append, List.length_singleton]; omega, fun x hx => ?_, fun b' hb' => ?_⟩
              · rcases List.mem_append.mp hx with hx | hx
                · exact ho x hx
                · rw [List.mem_singleton.mp hx]; exact hzo
              · rw [spo_spo]
                wtm_at "aw"
                exact ⟨b', _, _, _, ⟨rfl, rfl⟩, LS.Upto.step hz hc.asc hR hb'⟩
          · rintro _ _ ⟨b1, v4, v5, v6, ⟨rfl, rfl⟩, hR⟩
            rw [List.length_map] at hR
            wtm_at "aw"
            exact ret b1 (LS.Upto.fin rfl (by omega) hc ho hR)
      | some cu =>
        obtain ⟨cb, ub⟩ := cu
        replace hk : sgetI S k = some (D.ListSearch, nm_ListSearch, [.lst (kn.map oP), .int (b : Nat), .kt [], .non, .own f, .tup [.int (cb : Nat), .tup (iL ub)]]) := hk
        wtm_at "aw"
        refine r_br (fun h => ?_) (fun h => ?_)
        · wtm_at "aw"
          exact stay (.worse rfl hs rfl (by omega))
        · have hnb : ∀ c u, (some (cb, ub) : LS.Bst) = some (c, u) → LS.dfc kn s s.length < c := fun c u e => by cases e; omega
          wtm_at "aw"
          rw [hls, hlk]
          refine r_br (fun he => ?_) (fun he => ?_)
          · wtm_at "aw"
            exact ret (some (LS.dfc kn s s.length, s)) (.leaf rfl (by omega) ho (by omega) hnb)
          · wtm_at "aw"
            refine ⟨k, b, f, kn, (some (cb, ub)), s, rfl, hk, hkn, hb1, hb2, by omega, fun cs hc hcl => ?_⟩
            wtm_at "aw"
            refine loop_one (xs := iL cs) (fun i ρ S' => ∃ (b1 : LS.Bst) (v4 v5 v6 : Option PV), (ρ = [some (.own k), some (.tup (iL s)), some (.int ((LS.dfc kn s s.length : Nat) : Int)), some (.int most), v4, v5, v6] ∧ S' = spo S k (srI D kn b f b1)) ∧ LS.Res kn most (LS.Upto (b : Int) kn.length s cs i) (some (cb, ub)) b1) ⟨(some (cb, ub)), _, _, _, ⟨rfl, keep.symm⟩, LS.Upto.start⟩ ?_ ?_
            · rintro i x _ _ hx ⟨b1, v4, v5, v6, ⟨rfl, rfl⟩, hR⟩
              obtain ⟨z, hz, rfl⟩ := map_at hx
              have hzo := hc.ok z (List.mem_of_getElem? hz)
              have hk1 : srAt D (spo S k (srI D kn b f b1)) k kn b f b1 := sgetI_spo_same hkl
              have hf1 : sgetD (spo S k (srI D kn b f b1)) f = some ([], []) := sgetD_spo_ne hkf hf
              have hsl : (iL s).length ≤ 100 := by omega
              obtain ⟨o, hoo⟩ : ∃ o, kn[s.length]? = some o := ⟨_, List.getElem?_eq_getElem (by omega)⟩
              have hat : atI (kn.map oP) (s.length : Int) = some (oP o) := L5.at_nat (by rw [List.getElem?_map, hoo]; rfl)
              have el : iL s ++ [PV.int z] = iL (s ++ [z]) := (iLa s [z]).symm
              have hd1 : LS.dfc kn (s ++ [z]) (s ++ [z]).length = LS.dfc kn s s.length + if decide (o = some (s ++ [z])) = true then 0 else 1 := by
                rw [List.length_append, List.length_singleton, LS.dfc, LS.dfc_congr kn (t := s ++ [z]) (u := s) (n := s.length) (by rw [List.take_left, List.take_length])]
                unfold LS.hit
                rw [hoo, List.take_of_length_le (by rw [List.length_append]; exact Nat.le_refl _), show decide (some o = some (some (s ++ [z]))) = decide (o = some (s ++ [z])) by rw [decide_eq_decide, Option.some.injEq]]
              have e1 : eqOk (.tup (iL (s ++ [z]))) := eqOk_iT _
              have hln : (iL (s ++ [z])).length = s.length + 1 := by rw [List.length_map, List.length_append]; rfl
              wtm_at "aw"
              rw [hls, el]
              refine r_onO hat ?_
              cases o with
              | none =>
                dsimp only [oP]
                have hqn : eqOk .non := ⟨rfl, by decide +kernel⟩
                have ev : PyData.eqv (dat .non) (dat (.tup (iL (s ++ [z])))) = false := by rw [dat, dat]; simp [PyData.eqv]
                rw [show decide ((none : Option (List Int)) = some (s ++ [z])) = false from rfl] at hd1
                generalize false = same at *
                wtm_at "aw"
                rw [hln]
                change asp_isp D [PV.own k, PV.int ((s.length + 1 : Nat) : Int), PV.bl (PyData.eqv (dat .non) (dat (.tup (iL (s ++ [z])))))] _ _
                rw [ev]
                refine ⟨k, b, f, s.length + 1, same, kn, b1, rfl, hk1, hf1, ?_⟩
                wtm_at "aw"
                have hcast : ((LS.dfc kn s s.length : Nat) : Int) + (if (!same) = true then 1 else 0) = ((LS.dfc kn (s ++ [z]) (s ++ [z]).length : Nat) : Int) := by
                  rw [hd1]
                  cases same <;> simp
                rw [hcast]
                refine hp _ _ _ ⟨d - 1, by omega, k, b, f, most, kn, b1, s ++ [z], rfl, hkf, hk1, hf1, hkn, hb1, hb2, by rw [List.length_append, List.length_singleton]; omega, by rw [List.length_append, List.length_singleton]; omega, fun x hx => ?_, fun b' hb' => ?_⟩
                · rcases List.mem_append.mp hx with hx | hx
                  · exact ho x hx
                  · rw [List.mem_singleton.mp hx]; exact hzo
                · rw [spo_spo]
                  wtm_at "aw"
                  exact ⟨b', _, _, _, ⟨rfl, rfl⟩, LS.Upto.step hz hc.asc hR hb'⟩
              | some u =>
                dsimp only [oP, tupP]
                have e2 : eqOk (.tup (iL u)) := eqOk_iT _
                have ev := eqv_iT u (s ++ [z])
                rw [show decide (some u = some (s ++ [z])) = decide (u = s ++ [z]) by rw [decide_eq_decide, Option.some.injEq]] at hd1
                generalize decide (u = s ++ [z]) = same at *
                wtm_at "aw"
                rw [hln]
                change asp_isp D [PV.own k, PV.int ((s.length + 1 : Nat) : Int), PV.bl (PyData.eqv (dat (.tup (iL u))) (dat (.tup (iL (s ++ [z])))))] _ _
                rw [ev]
                refine ⟨k, b, f, s.length + 1, same, kn, b1, rfl, hk1, hf1, ?_⟩
                wtm_at "aw"
                have hcast : ((LS.dfc kn s s.length : Nat) : Int) + (if (!same) = true then 1 else 0) = ((LS.dfc kn (s ++ [z]) (s ++ [z]).length : Nat) : Int) := by
                  rw [hd1]
                  cases same <;> simp
                rw [hcast]
                refine hp _ _ _ ⟨d - 1, by omega, k, b, f, most, kn, b1, s ++ [z], rfl, hkf, hk1, hf1, hkn, hb1, hb2, by rw [List.length_append, List.length_singleton]; omega, by rw [List.length_append, List.length_singleton]; omega, fun x hx => ?_, fun b' hb' => ?_⟩
                · rcases List.mem_append.mp hx with hx | hx
                  · exact ho x hx
                  · rw [List.mem_singleton.mp hx]; exact hzo
                · rw [spo_spo]
                  wtm_at "aw"
                  exact ⟨b', _, _, _, ⟨rfl, rfl⟩, LS.Upto.step hz hc.asc hR hb'⟩
            · rintro _ _ ⟨b1, v4, v5, v6, ⟨rfl, rfl⟩, hR⟩
              rw [List.length_map] at hR
              wtm_at "aw"
              exact ret b1 (LS.Upto.fin rfl (by omega) hc ho hR)
end
end K16

namespace K16
open LS
section
variable {P : Program} {w : World} {K : PySem.W.Frag} {mg : Str → Option Value} {base : Heap} {D : Ad} {n : Nat}
@[reducible] def cL (D : Ad) : PV := .ins D.ListCode nm_ListCode []
theorem knO_get {b : Nat} : ∀ {i : Nat} {vs : List PV} {k : Nat} {u : List Int}, (knO b i vs)[k]? = some (some u) → ∃ v, vs[k]? = some v ∧ kOf b (i + k + 1) v = some u := fun {i vs k u} h => by
  have hl := (List.getElem?_eq_some_iff.mp h).1
  rw [knO_len] at hl
  have e : vs[k]? = some vs[k] := List.getElem?_eq_getElem hl
  have := knO_at b i vs k _ e
  rw [h] at this
  exact ⟨_, e, (Option.some.inj this).symm⟩
theorem knO_ok {b : Nat} {hs : List PV} (hl : hs.length ≤ 30) : KnOk b (knO b 0 hs) := ⟨fun i u h => by
    obtain ⟨v, _, e⟩ := knO_get h
    rw [(kOf_some e).2.1, Nat.zero_add], fun i u h => by
    obtain ⟨v, _, e⟩ := knO_get h
    exact (kOf_some e).2.2, by rw [knO_len]; exact hl⟩
def asp_few0 (D : Ad) : AL := fun vs S P => ∃ (hs : List PV) (b : Nat) (most : Int), vs = [cL D, .tup hs, .int (b : Nat), .int most, .kt [], .non, .non, .non] ∧ (∀ v ∈ hs, Hv v) ∧ hs.length ≤ 30 ∧ 1 ≤ b ∧ b ≤ 1000000000000 ∧ ∀ b' J, LS.Res (knO b 0 hs) most (LS.Ext (b : Int) (knO b 0 hs).length []) none b' → P (bP b') (S ++ J)
theorem ok_few0 (T : Txt K mg D) {d : Nat} (hd : 30 ≤ d) (c0 : Ck P w K mg base CX0 n D.ListSearch 4 [] (cSp K (asp_ini D))) (c1 : Cm P w K mg base CX0 n D.ListSearch "descend" (cSp K (asp_dsc D d))) (c2 : Cg P w K mg base CX0 n "lists_heard" (cSp K asp_lhd)) {no : AL} (c3 : Cm P w K mg base CX0 n D.ListSearch "fix" (cSp K no))
    {f : Addr} {fd : FuncData} (F : Fun K "fewest" "ListCode.fewest" st_ListCode_fewest f fd) : FnG P w K mg base CX0 (n + 2) f fd ["self", "letters", "width", "most", "start", "other", "agree", "differ"] (cSp K (asp_few0 D)) := by
  refine oa_ListCode_fewest T (ci_ListSearch := c0) (cm_ListSearch_descend := c1) (cg_lists_heard := c2) (cm_ListSearch_fix := c3) F (fun vs S R h => ?_) (fun vs S R h => ?_)
  · obtain ⟨hs, b, most, rfl, _⟩ := h
    rfl
  · obtain ⟨hs, b, most, rfl, hh, hl, hb1, hb2, ret⟩ := h
    have hok := knO_ok (b := b) hl
    dsimp only [sv_ListCode_fewest, pk]
    wtm_at "aw"
    refine ⟨hs, b, rfl, hh, hl, ?_⟩
    have hkl := knO_len b 0 hs
    generalize knO b 0 hs = kn at *
    wtm_at "aw"
    refine ⟨_, b, kn, rfl, sgetI_new S _ _ _, ?_⟩
    rw [spo_new, List.length_append, List.length_singleton]
    obtain ⟨S1, hS1⟩ : ∃ S1 : Sto, S ++ [srI D kn b (S.length + 1) none] ++ [.dct [] []] = S1 := ⟨_, rfl⟩
    have hk : srAt D S1 S.length kn b (S.length + 1) none := by
      rw [← hS1, List.append_assoc]
      exact sgetI_at (by rw [List.getElem?_append_right (Nat.le_refl _), Nat.sub_self]; rfl)
    have hf : sgetD S1 (S.length + 1) = some ([], []) := by
      have hlen : (S ++ [srI D kn b (S.length + 1) none]).length = S.length + 1 := by rw [List.length_append]; rfl
      have := sgetD_new (S ++ [srI D kn b (S.length + 1) none]) [] []
      rw [hlen, hS1] at this
      exact this
    have hsp : ∀ b', spo S1 S.length (srI D kn b (S.length + 1) b') = S ++ [srI D kn b (S.length + 1) b', .dct [] []] := fun b' => by
      rw [← hS1, List.append_assoc, spo_eq, List.set_append_right _ _ (Nat.le_refl _), Nat.sub_self]
      rfl
    wtm_at "aw"
    rw [hS1]
    refine ⟨fun ρ S' => ρ = [some (cL D), some (.tup hs), some (.int (b : Nat)), some (.int most), some (.kt []), some .non, some .non, some .non, some (.own S.length)] ∧ S' = S1, ?_, ?_⟩
    · wtm_at "aw"
    · rintro _ S1 ⟨rfl, rfl⟩
      refine ⟨fun ρ S' => ρ = [some (cL D), some (.tup hs), some (.int (b : Nat)), some (.int most), some (.kt []), some .non, some .non, some .non, some (.own S.length)] ∧ S' = S1, ?_, ?_⟩
      · wtm_at "aw"
      · rintro _ S1 ⟨rfl, rfl⟩
        wtm_at "aw"
        refine ⟨S.length, b, S.length + 1, most, kn, none, [], rfl, by omega, hk, hf, hok, hb1, hb2, Nat.zero_le _, by have := hok.few; omega, fun _ h => absurd h List.not_mem_nil, fun b' hR => ?_⟩
        have hk2 : sgetI (spo S1 S.length (srI D kn b (S.length + 1) b')) S.length = some (D.ListSearch, nm_ListSearch, [.lst (kn.map oP), .int (b : Nat), .kt [], .non, .own (S.length + 1), bP b']) := sgetI_spo_same (sgetI_lt hk)
        wtm_at "aw"
        rw [hsp]
        exact ret b' _ hR
theorem blw_bP (n : Nat) (b' : LS.Bst) : blw n (bP b') = true := by
  cases b' with
  | none => rfl
  | some cu =>
    show (true && (blws n (iL cu.2) && true)) = true
    rw [blws_ints]
    rfl
def asp_few (D : Ad) : AL := fun vs S P => ∃ (hs : List PV) (b : Nat) (most : Int), vs = [cL D, .tup hs, .int (b : Nat), .int most, .kt [], .non, .non, .non] ∧ (∀ v ∈ hs, Hv v) ∧ hs.length ≤ 30 ∧ 1 ≤ b ∧ b ≤ 1000000000000 ∧ ∀ b', LS.Res (knO b 0 hs) most (LS.Ext (b : Int) (knO b 0 hs).length []) none b' → P (bP b') S
theorem few_weak {k : Nat} {f : Addr} {fd : FuncData} {ps : List Str} (F : FnG P w K mg base CX0 k f fd ps (cSp K (asp_few0 D))) : FnG P w K mg base CX0 k f fd ps (cSp K (asp_few D)) :=
  fnG_weak (fnG_trimC F) fun vs S R ⟨hs, b, most, h1, h2, h3, h4, h5, ret⟩ hc => ⟨hs, b, most, h1, h2, h3, h4, h5, fun b' J a => r_trimS (blw_bP _ _) hc (ret b' a)⟩
def asp_dcd (D : Ad) : AL := fun vs S P => ∃ (hs : List PV) (b : Nat) (most : Int), vs = [cL D, .tup hs, .int (b : Nat), .int most] ∧ (∀ v ∈ hs, Hv v) ∧ hs.length ≤ 30 ∧ 1 ≤ b ∧ b ≤ 1000000000000 ∧ ∀ b', LS.Res (knO b 0 hs) most (LS.Ext (b : Int) (knO b 0 hs).length []) none b' → P (oP (b'.map Prod.snd)) S
theorem ok_dcd (T : Txt K mg D) (c0 : Cmk P w K mg base CX0 n D.ListCode "fewest" 1 ["width", "most"] (cSp K (askD 1 2 [0, 1, 2, 3, 4, 5] [.kt [], .non, .non, .non] (asp_few D)))) {f : Addr} {fd : FuncData} (F : Fun K "decoded" "Code.decoded" st_ListCode_decoded f fd) : FnG P w K mg base CX0 (n + 1) f fd ["self", "letters", "width", "most"] (cSp K (asp_dcd D)) := by
  refine oa_ListCode_decoded T (cmk_ListCode_fewest := c0) F (fun vs S R h => ?_) (fun vs S R h => ?_)
  · obtain ⟨hs, b, most, rfl, _⟩ := h
    rfl
  · obtain ⟨hs, b, most, rfl, hh, hl, hb1, hb2, ret⟩ := h
    dsimp only [sv_ListCode_decoded, pk]
    wtm_at "aw"
    refine ⟨rfl, hs, b, most, rfl, hh, hl, hb1, hb2, fun b' hR => ?_⟩
    have := ret b' hR
    cases b' with
    | none =>
      dsimp only [bP]
      wtm_at "aw"
      exact this
    | some cu =>
      dsimp only [bP]
      wtm_at "aw"
      exact this
end
end K16

namespace K16
open LS
section
variable {P : Program} {w : World} {K : PySem.W.Frag} {mg : Str → Option Value} {base : Heap} {D : Ad} {n : Nat}
@[reducible] def dk1 (D : Dk) (G : Sto) : Sto := dx "numbers" "mixed" "choices" X0 D G
theorem blwS_dk1 {G : Sto} {D D' : Dk} (h : blwS (dk1 D G).length (dk1 D G) = true) : blwS (dk1 D' G).length (dk1 D' G) = true := by
  unfold dk1 dx dd3 at h ⊢
  rw [blwS, blwS, Bool.and_eq_true, Bool.and_eq_true] at h
  rw [blwS, blwS, Bool.and_eq_true, Bool.and_eq_true]
  exact ⟨blws_ints _ _, rfl, h.2.2⟩
theorem cut_iL2 (ns : List Int) (lo hi : Option Int) : ∃ ms : List Int, cutP (iL ns) lo hi = iL ms ∧ ms.length ≤ ns.length ∧ ∀ x ∈ ms, x ∈ ns := by
  refine ⟨(ns.drop (HT.sIx (iL ns).length 0 lo)).take (HT.sIx (iL ns).length (iL ns).length hi - HT.sIx (iL ns).length 0 lo), ?_, ?_, fun x hx => List.mem_of_mem_drop (List.mem_of_mem_take hx)⟩
  · unfold cutP iL
    rw [List.map_take, List.map_drop]
  · rw [List.length_take, List.length_drop]
    omega
theorem cut_iLT (t : List Int) (N : Nat) : cutP (iL t) none (some (N : Int)) = iL (t.take N) := by
  rw [cut_take _ (by omega), Int.toNat_natCast]
  exact (List.map_take ..).symm
theorem pd_blw {b : Int} {N : Nat} : ∀ {d : Nat} {p : PV}, Pd b d p → blw N p = true := by
  intro d
  induction d with
  | zero => intro p h; cases p <;> first | rfl | exact h.elim
  | succ d ih =>
    intro p h
    have go : ∀ xs : List PV, (∀ x ∈ xs, Pd b d x) → blws N xs = true := fun xs hx => by
      rw [blws_all, List.all_eq_true]
      exact fun x hm => ih (hx x hm)
    cases p with
    | tup xs => exact go xs h
    | lst xs => exact go xs h
    | dct ks xs => exact go xs h.2
    | _ => first | rfl | exact h.elim
/-- a list that begins with st -/
def asp_lst0 : AL := fun vs S P => ∃ (E : Dk) (G : Sto) (n : Int) (b L : Nat) (st : List Int), vs = [.own 1, .int (b : Nat), tupP st, .int (L : Nat)] ∧ S = dk1 E G ∧ E.Ok n ∧ n ≤ 900000000 ∧ 1 ≤ b ∧ b ≤ 1000000000000 ∧ L ≤ 30 ∧ st.length ≤ L ∧ (∀ x ∈ st, 0 ≤ x ∧ x < (b : Int)) ∧ ∀ t E' J, t.length = L → (∀ x ∈ t, 0 ≤ x ∧ x < (b : Int)) → E'.Ok (n + 60) → P (tupP t) (dk1 E' (G ++ J))
theorem ok_lst0 (T : Txt K mg D) (c0 : Cg P w K mg base CX0 n "_law_draw" (cSp K asp_drwW)) {f : Addr} {fd : FuncData} (F : Fun K "_law_list" "_law_list" st__law_list f fd) : FnG P w K mg base CX0 (n + 1) f fd ["_law_deck_here", "_law_limit", "_law_start", "_law_length"] (cSp K asp_lst0) := by
  refine oa__law_list T (cg__law_draw := c0) F (fun vs S R h => ?_) (fun vs S R h => ?_)
  · obtain ⟨E, G, n, b, L, st, rfl, _⟩ := h
    rfl
  · obtain ⟨E, G, n, b, L, st, rfl, rfl, hE, hn, hb1, hb2, hL, hst, ho, ret⟩ := h
    have hil : (iL st).length = st.length := List.length_map ..
    dsimp only [sv__law_list, pk, dk1, tupP]
    wtm_at "aw"
    refine ⟨fun q ρ S' => ∃ (E' : Dk) (t : List Int), (ρ = [some (.own 1), some (.int (b : Nat)), some (.tup (iL st)), some (.int (L : Nat)), some (.own (G.length + 1 + 1))] ∧ S' = dk1 E' (G ++ [.lst (iL t)])) ∧ q + t.length = L ∧ (∀ x ∈ t, 0 ≤ x ∧ x < (b : Int)) ∧ E'.Ok (n + 2 * (t.length : Nat)), ⟨L - st.length, E, st, ⟨rfl, rfl⟩, by omega, ho, hE.up (by omega)⟩, ?_⟩
    rintro q _ _ ⟨E', t, ⟨rfl, rfl⟩, hq, ht, hE'⟩
    have hG : ∀ E4, sget (dk1 E4 (G ++ [.lst (iL t)])) (G.length + 2) = some (iL t) := fun E4 => sget_two _ _ G _
    have hln : (iL t).length = t.length := List.length_map ..
    have hln2 : (iL t).length ≤ 30 := by omega
    wtm_at "aw"
    rw [hln]
    refine r_br (fun h => ?_) (fun h => ?_)
    · refine ⟨fun ρ S' => ∃ (E' : Dk) (t' : List Int), (ρ = [some (.own 1), some (.int (b : Nat)), some (.tup (iL st)), some (.int (L : Nat)), some (.own (G.length + 1 + 1))] ∧ S' = dk1 E' (G ++ [.lst (iL t')])) ∧ t'.length = t.length + 1 ∧ (∀ x ∈ t', 0 ≤ x ∧ x < (b : Int)) ∧ E'.Ok (n + 2 * (t'.length : Nat)), ?_, ?_⟩
      · rintro _ _ ⟨E2, t', ⟨rfl, rfl⟩, h1, h2, h3⟩
        exact ⟨q - 1, by omega, E2, t', ⟨rfl, rfl⟩, by omega, h2, h3⟩
      · wtm_at "aw"
        refine ⟨fun p S' => ∃ (E2 : Dk) (z : Int), (p = .int z ∧ S' = dk1 E2 (G ++ [.lst (iL t)])) ∧ (0 ≤ z ∧ z < (b : Int)) ∧ E2.Ok (n + 2 * ((t.length + 1 : Nat) : Int)), ?_, ?_⟩
        · wtm_at "aw"
          refine ⟨X0, E', G ++ [.lst (iL t)], _, 2, rfl, rfl, by decide, hE', by omega, by omega, by omega, fun c E2 c0 c1 hE2 => ?_⟩
          wtm_at "aw"
          refine r_br (fun h => ?_) (fun h => ?_)
          · wtm_at "aw"
            refine ⟨X0, E2, G ++ [.lst (iL t)], _, (b : Int), rfl, rfl, by decide, hE2, by omega, by omega, by omega, fun z E3 z0 z1 hE3 => ?_⟩
            exact ⟨E3, z, ⟨rfl, rfl⟩, ⟨z0, z1⟩, hE3.up (by omega)⟩
          · wtm_at "aw"
            exact ⟨E2, 0, ⟨rfl, rfl⟩, ⟨by omega, by omega⟩, hE2.up (by omega)⟩
        · rintro _ _ ⟨E2, z, ⟨rfl, rfl⟩, hz, hE2⟩
          wtm_at "aw"
          refine ⟨E2, t ++ [z], ⟨rfl, ?_⟩, by rw [List.length_append]; rfl, fun x hx => ?_, by rw [List.length_append]; exact hE2⟩
          · rw [show iL (t ++ [z]) = iL t ++ [.int z] from iLa t [z]]
            exact sput_two2 _ _ G _ _
          · rcases List.mem_append.mp hx with hx | hx
            · exact ht x hx
            · rw [List.mem_singleton.mp hx]; exact hz
    · wtm_at "aw"
      exact ret t E' _ (by omega) ht (hE'.up (by omega))
def asp_lst : AL := fun vs S P => ∃ (E : Dk) (G : Sto) (n : Int) (b L : Nat) (st : List Int), vs = [.own 1, .int (b : Nat), tupP st, .int (L : Nat)] ∧ S = dk1 E G ∧ E.Ok n ∧ n ≤ 900000000 ∧ 1 ≤ b ∧ b ≤ 1000000000000 ∧ L ≤ 30 ∧ st.length ≤ L ∧ (∀ x ∈ st, 0 ≤ x ∧ x < (b : Int)) ∧ ∀ t E', t.length = L → (∀ x ∈ t, 0 ≤ x ∧ x < (b : Int)) → E'.Ok (n + 60) → P (tupP t) (dk1 E' G)
theorem lst_weak {k : Nat} {f : Addr} {fd : FuncData} {ps : List Str} (F : FnG P w K mg base CX0 k f fd ps (cSp K asp_lst0)) : FnG P w K mg base CX0 k f fd ps (cSp K asp_lst) :=
  fnG_weak (fnG_trimC F) fun vs S R ⟨E, G, n, b, L, st, h1, h2, h3, h4, h5, h6, h7, h8, h9, ret⟩ hc => ⟨E, G, n, b, L, st, h1, h2, h3, h4, h5, h6, h7, h8, h9, fun t E' J a1 a2 a3 => r_trimV (S1 := dk1 E' G) (J := J) rfl (by rw [h2]; exact Nat.le_refl _) (blws_ints _ _) (blwS_dk1 (by rw [← h2]; exact hc)) (ret t E' a1 a2 a3)⟩
/-! what is heard -/
structure Hq (v : PV) : Prop where
  hv : Hv v
  pd : Pd big 30 v
  tl : L5.tl v ≤ 150000
theorem tls_iL : ∀ t : List Int, L5.tls (iL t) = 49 * t.length
  | [] => rfl
  | x :: t => by
    rw [show iL (x :: t) = .int x :: iL t from rfl, L5.tls, L5.tl, tls_iL t, List.length_cons]
    omega
theorem tl_tupP (t : List Int) : L5.tl (tupP t) = 3 + 49 * t.length := by rw [tupP, L5.tl, tls_iL]
theorem pd_iL {t : List Int} (h : ∀ x ∈ t, okI big x) : ∀ p ∈ iL t, Pd big 0 p := fun p hp => by
  obtain ⟨x, hx, rfl⟩ := List.mem_map.mp hp
  exact h x hx
theorem pd_ints {t : List Int} (h : ∀ x ∈ t, okI big x) : Pd big 1 (tupP t) := pd_iL h
theorem okI_of {x : Int} (h1 : -2 ≤ x) (h2 : x ≤ 1000000000000000000000000000000000000000000) : okI big x := ⟨by unfold big; omega, by unfold big; omega⟩
theorem hq_ints {t : List Int} (h : ∀ x ∈ t, okI big x) (hl : t.length ≤ 3000) : Hq (tupP t) := ⟨.tup _ (fun x hx => by
  obtain ⟨i, _, rfl⟩ := List.mem_map.mp hx
  exact .int i) (by rw [List.length_map]; exact hl), (pd_ints h).up (by decide), by rw [tl_tupP]; omega⟩
def deepT : Nat → PV
  | 0 => .tup []
  | k + 1 => .tup [deepT k]
def farL : Nat → PV
  | 0 => .lst []
  | k + 1 => .lst [farL k]
theorem pd_deep : ∀ k, Pd big (k + 1) (deepT k) ∧ L5.tl (deepT k) = 3 + 5 * k
  | 0 => ⟨fun _ h => absurd h List.not_mem_nil, rfl⟩
  | k + 1 => ⟨fun p hp => by rw [List.mem_singleton.mp hp]; exact (pd_deep k).1, by
      have := (pd_deep k).2
      rw [deepT, L5.tl, L5.tls, L5.tls, this]
      omega⟩
theorem pd_far : ∀ k, Pd big (k + 1) (farL k) ∧ L5.tl (farL k) = 3 + 5 * k
  | 0 => ⟨fun _ h => absurd h List.not_mem_nil, rfl⟩
  | k + 1 => ⟨fun p hp => by rw [List.mem_singleton.mp hp]; exact (pd_far k).1, by
      have := (pd_far k).2
      rw [farL, L5.tl, L5.tls, L5.tls, this]
      omega⟩
theorem hq_deep : Hq (deepT 26) := ⟨.tup [deepT 25] (fun x hx => by rw [List.mem_singleton.mp hx]; exact .tup _) (by show 1 ≤ 3000; decide), (pd_deep 26).1.up (by decide), by rw [(pd_deep 26).2]; decide⟩
theorem hq_far : Hq (farL 26) := ⟨.lst [farL 25], (pd_far 26).1.up (by decide), by rw [(pd_far 26).2]; decide⟩
theorem hq_farD : Hq (.dct [.inl 0] [farL 26]) := ⟨.dct _ _, ⟨fun k hk => by rw [List.mem_singleton.mp hk]; exact okI_of (by decide) (by decide), fun p hp => by rw [List.mem_singleton.mp hp]; exact (pd_far 26).1.up (by decide)⟩, by
  rw [L5.tl, L5.tls, L5.tls, (pd_far 26).2, L5.tk, L5.tk]
  decide⟩
theorem hq_non : Hq .non := ⟨.non, trivial, by rw [L5.tl]; decide⟩
theorem hq_true : Hq (.bl true) := ⟨.bl _, trivial, by rw [L5.tl]; decide⟩
theorem hq_0 : Hq (.int 0) := ⟨.int _, okI_of (by decide) (by decide), by rw [L5.tl]; decide⟩
theorem hq_str {x : Str} (h : okS x) (hl : x.length ≤ 2100) : Hq (.str x) := ⟨.str _, h, by rw [L5.tl]; omega⟩
theorem hq_lst {t : List Int} (h : ∀ x ∈ t, okI big x) (hl : t.length ≤ 3000) : Hq (.lst (iL t)) := ⟨.lst _, fun p hp => (pd_iL h p hp).up (by decide), by rw [L5.tl, tls_iL]; omega⟩
theorem hq_dct0 : Hq (.dct [] []) := ⟨.dct _ _, ⟨fun _ h => absurd h List.not_mem_nil, fun _ h => absurd h List.not_mem_nil⟩, by rw [L5.tl]; decide⟩
/-- tuples of other things -/
theorem hq_tup {xs : List PV} (h : ∀ x ∈ xs, El x ∧ Pd big 2 x ∧ L5.tl x ≤ 2000) (hl : xs.length ≤ 40) : Hq (.tup xs) := ⟨.tup _ (fun x hx => (h x hx).1) (by omega), (show Pd big 3 (.tup xs) from fun x hx => (h x hx).2.1).up (by decide), by
  have : ∀ l : List PV, (∀ x ∈ l, L5.tl x ≤ 2000) → L5.tls l ≤ 2002 * l.length := fun l => by
    induction l with
    | nil => intro _; exact Nat.le_refl _
    | cons x l ih =>
      intro h
      have h1 := ih fun v hv => h v (List.mem_cons_of_mem _ hv)
      have h2 := h x List.mem_cons_self
      rw [L5.tls, List.length_cons]
      omega
  have := this xs fun x hx => (h x hx).2.2
  rw [L5.tl]
  omega⟩
theorem el_i {x : Int} (h : okI big x) : El (.int x) ∧ Pd big 2 (.int x) ∧ L5.tl (.int x) ≤ 2000 := ⟨.int _, h, by rw [L5.tl]; decide⟩
theorem el_b (b : Bool) : El (.bl b) ∧ Pd big 2 (.bl b) ∧ L5.tl (.bl b) ≤ 2000 := ⟨.bl _, trivial, by rw [L5.tl]; decide⟩
theorem el_n : El .non ∧ Pd big 2 .non ∧ L5.tl .non ≤ 2000 := ⟨.non, trivial, by rw [L5.tl]; decide⟩
theorem el_t {t : List Int} (h : ∀ x ∈ t, okI big x) (hl : t.length ≤ 30) : El (tupP t) ∧ Pd big 2 (tupP t) ∧ L5.tl (tupP t) ≤ 2000 := ⟨.tup _, (pd_ints h).up (by decide), by rw [tl_tupP]; omega⟩
end
end K16

namespace K16
open LS
section
variable {P : Program} {w : World} {K : PySem.W.Frag} {mg : Str → Option Value} {base : Heap} {D : Ad} {n : Nat}
theorem datsQ_iL : ∀ ns : List Int, datsQ (iL ns) = ns.map .int
  | [] => by rw [show iL [] = [] from rfl, datsQ]; rfl
  | n :: ns => by rw [show iL (n :: ns) = .int n :: iL ns from rfl, datsQ, datQ, datsQ_iL ns]; rfl
theorem datQ_tupP (u : List Int) : datQ (tupP u) = dat (.tup (iL u)) := by
  rw [tupP, datQ, datsQ_iL, dat, dats_ints]
theorem rep_flat {α : Type} (x : α) : ∀ k : Nat, (List.replicate k [x]).flatten = List.replicate k x
  | 0 => rfl
  | k + 1 => by rw [List.replicate_succ, List.flatten_cons, rep_flat x k, List.replicate_succ]; rfl
theorem iL_rep (z : Int) (k : Nat) : List.replicate k (PV.int z) = iL (List.replicate k z) := (List.map_replicate ..).symm
theorem okS_text (t : List Int) : okS (PyData.shown (datQ (tupP t))) := fun c hc => by
  have h := SP.okS_ints t
  rw [← datQ_tupP] at h
  unfold PyData.strOk at h
  have := Array.all_eq_true_iff_forall_mem.mp h c (by simpa using hc)
  have := of_decide_eq_true this
  omega
theorem okS_rep {k : Int} : okS (repS "a" k) := fun c hc => by
  rw [repS_list] at hc
  obtain ⟨l, hl, hc⟩ := List.mem_flatten.mp hc
  rw [(List.mem_replicate.mp hl).2] at hc
  exact okS_of "a" c hc
def asp_val : AL := fun vs S P => ∃ (b : Nat) (t : List Int), vs = [tupP t, .int (b : Nat)] ∧ 1 ≤ b ∧ b ≤ 1000000000000 ∧ t ≠ [] ∧ t.length ≤ 30 ∧ (∀ x ∈ t, 0 ≤ x ∧ x < (b : Int)) ∧ ∀ xs, (∀ v ∈ xs, Hq v) → 0 < xs.length → xs.length ≤ 100 → P (.lst xs) S
theorem ok_val (T : Txt K mg D) {f : Addr} {fd : FuncData} (F : Fun K "_law_values" "_law_values" st__law_values f fd) : FnG P w K mg base CX0 (n + 1) f fd ["_law_letter", "_law_limit"] (cSp K asp_val) := by
  refine oa__law_values T F (fun vs S R h => ?_) (fun vs S R h => ?_)
  · obtain ⟨b, t, rfl, _⟩ := h
    rfl
  · obtain ⟨b, t, rfl, hb1, hb2, hne, hl, ho, ret⟩ := h
    have hil : (iL t).length = t.length := List.length_map ..
    have hok : ∀ x ∈ t, okI big x := fun x hx => by
      have := ho x hx
      exact okI_of (by omega) (by omega)
    have hrq : rqOk (.tup (iL t)) := Pd.ok (p := tupP t) (pd_ints hok) (by decide) (by rw [tl_tupP]; omega)
    have hnl : t.length ≠ 0 := fun e => hne (List.length_eq_zero_iff.mp e)
    dsimp only [sv__law_values, pk, tupP]
    wtm_at "aw"
    refine loop_rng0 (fun i ρ S' => ∃ v4 : Option PV, ρ = [some (.tup (iL t)), some (.int (b : Nat)), some (deepT i), some (farL i), v4, none] ∧ S' = S) ⟨_, rfl, rfl⟩ ?_ ?_
    · rintro i _ _ hi ⟨v4, rfl, rfl⟩
      wtm_at "aw"
      exact ⟨_, rfl, rfl⟩
    · rintro _ _ ⟨v4, rfl, rfl⟩
      change aSeq _ _ _ [some (.tup (iL t)), some (.int (b : Nat)), some (deepT 26), some (farL 26), v4, none] _
      have hdp := hq_deep
      have hfr := hq_far
      have hfd := hq_farD
      generalize deepT 26 = dT at *
      generalize farL 26 = fL at *
      obtain ⟨ms, em, hms, hmm⟩ := cut_iL2 t none (some (-1))
      have hcl : (cutP (iL t) none (some (-1))).length ≤ 30 := by rw [em, List.length_map]; omega
      obtain ⟨ks, ek, hks, hkk⟩ := cut_iL2 t (some 1) none
      have hcl2 : (cutP (iL t) (some 1) none).length ≤ 30 := by rw [ek, List.length_map]; omega
      wtm_at "aw"
      have hokm : ∀ x ∈ ms, okI big x := fun x hx => hok x (hmm x hx)
      have hokk : ∀ x ∈ ks, okI big x := fun x hx => hok x (hkk x hx)
      have h139 : okI big (10 ^ Int.toNat 39) := by refine ⟨?_, ?_⟩ <;> decide +kernel
      have app : ∀ (l : List Int) (z : Int), l.length ≤ 30 → (∀ x ∈ l, okI big x) → okI big z → Hq (.tup (iL l ++ [.int z])) := fun l z h1 h2 h3 => by
        have e : iL l ++ [PV.int z] = iL (l ++ [z]) := (iLa l [z]).symm
        rw [e]
        exact hq_ints (t := l ++ [z]) (fun x hx => by
          rcases List.mem_append.mp hx with hx | hx
          · exact h2 x hx
          · rw [List.mem_singleton.mp hx]; exact h3) (by rw [List.length_append, List.length_singleton]; omega)
      have hshl : (PyData.shown (datQ (tupP t))).length ≤ 2100 := by
        have := (pd_ints hok).rq.ln
        rw [tl_tupP] at this
        omega
      have mix : ∀ (l : List Int), (∀ x ∈ l, okI big x) → ∀ p ∈ iL l, El p ∧ Pd big 2 p ∧ L5.tl p ≤ 2000 := fun l h p hp => by
        obtain ⟨x, hx, rfl⟩ := List.mem_map.mp hp
        exact el_i (h x hx)
      rw [hil, Int.toNat_natCast, rep_flat, rep_flat, rep_flat, em, ek, iL_rep, iL_rep]
      refine ret _ (fun v hv => ?_) (by simp) (by simp)
      simp only [List.mem_append, List.mem_cons, List.not_mem_nil, or_false] at hv
      rcases hv with ((rfl | rfl | rfl | rfl | rfl | rfl | rfl | rfl | rfl | rfl | rfl | rfl | rfl) | (rfl | rfl | rfl | rfl | rfl | rfl)) | (rfl | rfl | rfl | rfl)
      · exact hq_non
      · exact hq_true
      · exact hq_0
      · exact hq_str (okS_of "") (by decide +kernel)
      · exact hq_str okS_rep (by rw [repS_len]; decide +kernel)
      · exact hq_ints (t := []) (fun _ h => absurd h List.not_mem_nil) (Nat.zero_le _)
      · exact hq_lst (t := []) (fun _ h => absurd h List.not_mem_nil) (Nat.zero_le _)
      · exact hq_dct0
      · exact hdp
      · exact hfr
      · exact hfd
      · exact hq_ints (t := List.replicate t.length (10 ^ Int.toNat 39)) (fun x hx => by rw [(List.mem_replicate.mp hx).2]; exact h139) (by rw [List.length_replicate]; omega)
      · exact hq_lst hok (by omega)
      · exact hq_ints hokm (by omega)
      · exact app t 0 (by omega) hok (okI_of (by decide) (by decide))
      · exact app ms b (by omega) hokm (okI_of (by omega) (by omega))
      · exact app ms (-1) (by omega) hokm (okI_of (by decide) (by decide))
      · exact hq_tup (fun x hx => by rw [List.mem_singleton.mp hx]; exact el_t hok hl) (by rw [List.length_singleton]; decide)
      · exact hq_str (okS_text t) hshl
      · refine hq_tup (fun x hx => ?_) (by rw [List.length_append, List.length_singleton, List.length_map]; omega)
        rcases List.mem_append.mp hx with hx | hx
        · rw [List.mem_singleton.mp hx]; exact el_b true
        · exact mix ks hokk x hx
      · exact hq_tup (fun x hx => by rw [(List.mem_replicate.mp hx).2]; exact el_b false) (by rw [List.length_replicate]; omega)
      · refine hq_tup (fun x hx => ?_) (by rw [List.length_append, List.length_singleton, List.length_map]; omega)
        rcases List.mem_append.mp hx with hx | hx
        · exact mix ms hokm x hx
        · rw [List.mem_singleton.mp hx]; exact el_n
      · exact hq_ints (t := List.replicate (Int.toNat 3000) 0) (fun x hx => by rw [(List.mem_replicate.mp hx).2]; exact okI_of (by decide) (by decide)) (by rw [List.length_replicate]; decide)
end
end K16

namespace K16
open LS
section
variable {P : Program} {w : World} {K : PySem.W.Frag} {mg : Str → Option Value} {base : Heap} {D : Ad} {n : Nat}
theorem knO_set (b : Nat) (v : PV) : ∀ (i : Nat) (vs : List PV) (j : Nat), knO b i (vs.set j v) = (knO b i vs).set j (kOf b (i + j + 1) v)
  | _, [], _ => rfl
  | i, u :: r, 0 => by rw [List.set_cons_zero, knO, knO, List.set_cons_zero]
  | i, u :: r, j + 1 => by rw [List.set_cons_succ, knO, knO, List.set_cons_succ, knO_set b v (i + 1) r j, show i + 1 + j + 1 = i + (j + 1) + 1 by omega]
theorem hit_set (kn : LS.Kn) (o : Option (List Int)) (t : List Int) {i j : Nat} (h : i ≠ j) : LS.hit (kn.set j o) t i = LS.hit kn t i := by
  unfold LS.hit
  rw [List.getElem?_set_ne (Ne.symm h)]
theorem dfc_set0 (kn : LS.Kn) (o : Option (List Int)) (t : List Int) {j : Nat} : ∀ {n : Nat}, n ≤ j → LS.dfc (kn.set j o) t n = LS.dfc kn t n
  | 0, _ => rfl
  | n + 1, h => by rw [LS.dfc, LS.dfc, dfc_set0 kn o t (by omega), hit_set kn o t (by omega)]
theorem dfc_set (kn : LS.Kn) (o : Option (List Int)) (t : List Int) {j : Nat} : ∀ {n : Nat}, LS.dfc (kn.set j o) t n ≤ LS.dfc kn t n + 1
  | 0 => Nat.zero_le _
  | n + 1 => by
    by_cases e : n = j
    · rw [LS.dfc, LS.dfc, dfc_set0 kn o t (by omega)]
      split <;> split <;> omega
    · have ih := dfc_set kn o t (j := j) (n := n)
      rw [LS.dfc, LS.dfc, hit_set kn o t e]
      omega
theorem dfc_zero (kn : LS.Kn) (t : List Int) : ∀ {n : Nat}, (∀ i, i < n → LS.hit kn t i = true) → LS.dfc kn t n = 0
  | 0, _ => rfl
  | n + 1, h => by rw [LS.dfc, dfc_zero kn t fun i hi => h i (by omega), h n (by omega), if_pos rfl]
/-- all the letters of a list -/
def lets (hd : List Int) (L : Nat) : List PV := (List.range L).map fun i => tupP (hd.take (i + 1))
theorem lets_df {b L : Nat} {hd : List Int} (hl : hd.length = L) (ho : ∀ x ∈ hd, 0 ≤ x ∧ x < (b : Int)) : LS.df (knO b 0 (lets hd L)) hd = 0 := by
  unfold LS.df
  rw [knO_len]
  refine dfc_zero _ _ fun i hi => ?_
  have hi : i < L := by unfold lets at hi; rw [List.length_map, List.length_range] at hi; exact hi
  unfold LS.hit
  rw [knO_at b 0 (lets hd L) i (tupP (hd.take (i + 1))) (by unfold lets; rw [List.getElem?_map, List.getElem?_range hi]; rfl), Nat.zero_add]
  rw [kOf_tup (by rw [List.length_take]; omega) fun x hx => ho x (List.mem_of_mem_take hx)]
  exact decide_eq_true rfl
def asp_hrd0 : AL := fun vs S P => ∃ (E : Dk) (G : Sto) (n : Int) (b L bd : Nat), vs = [.own 1, .int (b : Nat), .int (L : Nat), .int (bd : Nat)] ∧ S = dk1 E G ∧ E.Ok n ∧ n ≤ 800000000 ∧ 1 ≤ b ∧ b ≤ 1000000000000 ∧ 5 ≤ L ∧ L ≤ 30 ∧ bd ≤ 3 ∧
  ∀ hs few E' J, (∀ v ∈ hs, Hq v) → hs.length = L → (few = true → ∃ hd : List Int, hd.length = L ∧ (∀ x ∈ hd, 0 ≤ x ∧ x < (b : Int)) ∧ LS.df (knO b 0 hs) hd ≤ bd) → E'.Ok (n + 400) → P (.tup [.tup hs, .bl few]) (dk1 E' (G ++ J))
theorem ok_hrd0 (T : Txt K mg D) (c0 : Cg P w K mg base CX0 n "_law_list" (cSp K asp_lst)) (c1 : Cg P w K mg base CX0 n "_law_draw" (cSp K asp_drwW)) (c2 : Cg P w K mg base CX0 n "_law_pick" (cSp K (asp_pck "numbers" "mixed" "choices"))) (c3 : Cg P w K mg base CX0 n "_law_values" (cSp K asp_val)) {f : Addr} {fd : FuncData} (F : Fun K "_law_heard" "_law_heard" st__law_heard f fd) : FnG P w K mg base CX0 (n + 1) f fd ["_law_deck_here", "_law_limit", "_law_length", "_law_bound"] (cSp K asp_hrd0) := by
  refine oa__law_heard T (cg__law_list := c0) (cg__law_draw := c1) (cg__law_pick := c2) (cg__law_values := c3) F (fun vs S R h => ?_) (fun vs S R h => ?_)
  · obtain ⟨E, G, n, b, L, bd, rfl, _⟩ := h
    rfl
  · obtain ⟨E, G, n, b, L, bd, rfl, rfl, hE, hn, hb1, hb2, hL5, hL30, hbd, ret⟩ := h
    dsimp only [sv__law_heard, pk, dk1]
    wtm_at "aw"
    refine ⟨E, G, n, b, L, [], rfl, rfl, hE, by omega, hb1, hb2, hL30, Nat.zero_le _, fun _ h => absurd h List.not_mem_nil, fun hd E1 hdl hdo hE1 => ?_⟩
    unfold tupP
    wtm_at "aw"
    refine ⟨X0, E1, G, _, (L : Int), rfl, rfl, by decide, hE1, by omega, by omega, by omega, fun at' E2 at0 at1 hE2 => ?_⟩
    obtain ⟨a, rfl⟩ : ∃ a : Nat, at' = (a : Int) := ⟨at'.toNat, by omega⟩
    wtm_at "aw"
    refine ⟨X0, E2, G, _, 4, rfl, rfl, by decide, hE2, by omega, by omega, by omega, fun fw E3 fw0 fw1 hE3 => ?_⟩
    wtm_at "aw"
    generalize hfew : decide (0 < fw) = few
    have hcutA := cut_iLT hd a
    wtm_at "aw"
    rw [hcutA]
    refine ⟨E3, G, _, b, L, hd.take a, rfl, rfl, hE3, by omega, hb1, hb2, hL30, by rw [List.length_take]; omega, fun x hx => hdo x (List.mem_of_mem_take hx), fun sc E4 scl sco hE4 => ?_⟩
    unfold tupP
    wtm_at "aw"
    refine ⟨X0, E4, G, _, (L : Int), rfl, rfl, by decide, hE4, by omega, by omega, by omega, fun q' E5 q0 q1 hE5 => ?_⟩
    obtain ⟨q, rfl⟩ : ∃ q : Nat, q' = (q : Int) := ⟨q'.toNat, by omega⟩
    have hcutQ := cut_iLT sc q
    wtm_at "aw"
    rw [hcutQ]
    refine ⟨E5, G, _, b, L, sc.take q, rfl, rfl, hE5, by omega, hb1, hb2, hL30, by rw [List.length_take]; omega, fun x hx => sco x (List.mem_of_mem_take hx), fun th E6 thl tho hE6 => ?_⟩
    unfold tupP
    wtm_at "aw"
    rw [show ((L : Int) + 1 - 1).toNat = L by omega]
    refine comp_rng (fun i S' acc => ∃ _ : Unit, S' = dk1 E6 G ∧ acc = lets hd i) ⟨(), rfl, rfl⟩ ?_ ?_
    · rintro i _ _ hi ⟨_, rfl, rfl⟩
      have hlen : (lets hd i).length ≤ 30 := by unfold lets; rw [List.length_map, List.length_range]; omega
      have enx : lets hd (i + 1) = lets hd i ++ [.tup (iL (hd.take (i + 1)))] := by
        unfold lets
        rw [List.range_succ, List.map_append]
        rfl
      have hcut := cut_iLT hd (i + 1)
      rw [show (1 : Int) + (i : Nat) = ((i + 1 : Nat) : Int) by omega, enx]
      wtm_at "aw"
      rw [hcut]
      exact ⟨(), rfl, rfl⟩
    · rintro _ _ ⟨_, rfl, rfl⟩
      have hll : (lets hd L).length = L := by unfold lets; rw [List.length_map, List.length_range]
      have hldf := lets_df hdl hdo
      have hlH : ∀ v ∈ lets hd L, Hq v := fun v hv => by
        obtain ⟨i, _, rfl⟩ := List.mem_map.mp hv
        refine hq_ints (fun x hx => ?_) (by rw [List.length_take]; omega)
        have := hdo x (List.mem_of_mem_take hx)
        exact okI_of (by omega) (by omega)
      generalize lets hd L = found0 at *
      wtm_at "aw"
      obtain ⟨c, hc⟩ : ∃ c : Nat, c = if few = true then bd else 6 := ⟨_, rfl⟩
      have hat : atI [PV.int 7, PV.int ((bd : Int) + 1)] (if few = true then 1 else 0) = some (.int ((c : Int) + 1)) := by
        rw [hc]
        cases few <;> rfl
      have hc6 : c ≤ 6 := by rw [hc]; split <;> omega
      refine r_onO hat ?_
      wtm_at "aw"
      refine ⟨X0, E6, G ++ [.lst found0], _, ((c : Int) + 1), rfl, rfl, by decide, hE6, by omega, by omega, by omega, fun r' E7 r0 r1 hE7 => ?_⟩
      obtain ⟨r, rfl⟩ : ∃ r : Nat, r' = (r : Int) := ⟨r'.toNat, by omega⟩
      wtm_at "aw"
      refine comp_rng0 (fun i S' acc => ∃ (E8 : Dk) (ps : List Int), (S' = dk1 E8 (G ++ [.lst found0]) ∧ acc = iL ps) ∧ ps.length = i ∧ (∀ x ∈ ps, 0 ≤ x ∧ x < (L : Int)) ∧ E8.Ok (n + 190 + i)) ⟨E7, [], ⟨rfl, rfl⟩, rfl, fun _ h => absurd h List.not_mem_nil, hE7.up (by omega)⟩ ?_ ?_
      · rintro i _ _ hi ⟨E8, ps, ⟨rfl, rfl⟩, hpl, hpo, hE8⟩
        rw [Int.toNat_natCast] at hi
        have hlen : (iL ps).length ≤ 30 := by rw [List.length_map]; omega
        wtm_at "aw"
        refine ⟨X0, E8, G ++ [.lst found0], _, (L : Int), rfl, rfl, by decide, hE8, by omega, by omega, by omega, fun z E9 z0 z1 hE9 => ?_⟩
        refine ⟨by rw [sizeLine_eq]; omega, E9, ps ++ [z], ⟨rfl, (iLa ps [z]).symm⟩, by rw [List.length_append, hpl]; rfl, fun x hx => ?_, hE9.up (by omega)⟩
        rcases List.mem_append.mp hx with hx | hx
        · exact hpo x hx
        · rw [List.mem_singleton.mp hx]; exact ⟨z0, z1⟩
      · rintro _ _ ⟨E8, ps, ⟨rfl, rfl⟩, hpl, hpo, hE8⟩
        rw [Int.toNat_natCast] at hpl
        rw [Int.toNat_natCast] at hE8
        wtm_at "aw"
        refine loop_one (xs := iL ps) (fun i ρ S' => ∃ (E9 : Dk) (found : List PV) (v11 v12 : Option PV), (ρ = [some (.own 1), some (.int (b : Nat)), some (.int (L : Nat)), some (.int (bd : Nat)), some (.tup (iL hd)), some (.int (a : Nat)), some (.bl few), some (.tup (iL sc)), some (.tup (iL th)), some (.own (G.length + 1 + 1)), some (.lst (iL ps)), v11, v12, none, none] ∧ S' = dk1 E9 (G ++ [.lst found])) ∧ found.length = L ∧ (∀ v ∈ found, Hq v) ∧ LS.df (knO b 0 found) hd ≤ i ∧ E9.Ok (n + 200 + 2 * i)) ⟨E8, found0, _, _, ⟨rfl, rfl⟩, hll, hlH, Nat.le_of_eq hldf, hE8.up (by omega)⟩ ?_ ?_
        · rintro i x _ _ hx ⟨E9, found, v11, v12, ⟨rfl, rfl⟩, hfl, hfH, hfd, hE9⟩
          obtain ⟨z, hz, rfl⟩ := map_at hx
          have hzo := hpo z (List.mem_of_getElem? hz)
          have hir : i < r := by have := (List.getElem?_eq_some_iff.mp hz).1; omega
          obtain ⟨p, rfl⟩ : ∃ p : Nat, z = (p : Int) := ⟨z.toNat, by omega⟩
          have hpL : p < L := by omega
          have e1 : ((p : Int) + 1) = ((p + 1 : Nat) : Int) := by omega
          have cut1 : ∀ t : List Int, cutP (iL t) none (some ((p : Int) + 1)) = iL (t.take (p + 1)) := fun t => by rw [e1]; exact cut_iLT t (p + 1)
          have cS := cut1 sc
          have cT := cut1 th
          have cH := cut1 hd
          have hG : ∀ E4, sget (dk1 E4 (G ++ [.lst found])) (G.length + 2) = some found := fun E4 => sget_two _ _ G _
          wtm_at "aw"
          rw [cH, cS, cT]
          refine ⟨b, hd.take (p + 1), rfl, hb1, hb2, ?_, by rw [List.length_take]; omega, fun x hx => hdo x (List.mem_of_mem_take hx), fun xs hxs hx0 hx1 => ?_⟩
          · intro e
            have e2 : (hd.take (p + 1)).length = 0 := by rw [e]; rfl
            rw [List.length_take] at e2
            omega
          wtm_at "aw"
          refine ⟨X0, E9, G ++ [.lst found], _, _, xs, rfl, rfl, by decide, hE9, by omega, hx0, by omega, fun _ => rfl, fun v E10 hv hE10 => ?_⟩
          have hvq := hxs v hv
          wtm_at "aw"
          refine ⟨X0, E10, G ++ [.lst found], _, _, [.tup (iL (sc.take (p + 1))), .tup (iL (th.take (p + 1))), .tup (iL (sc.take (p + 1)))] ++ [v], rfl, rfl, by decide, hE10, by omega, by simp, by simp, fun _ => rfl, fun v2 E11 hv2 hE11 => ?_⟩
          have hin : ∀ t : List Int, t.length = L → (∀ x ∈ t, 0 ≤ x ∧ x < (b : Int)) → Hq (.tup (iL (t.take (p + 1)))) := fun t h1 h2 => by
            refine hq_ints (t := t.take (p + 1)) (fun x hx => ?_) (by rw [List.length_take]; omega)
            have := h2 x (List.mem_of_mem_take hx)
            exact okI_of (by omega) (by omega)
          have hq2 : Hq v2 := by
            simp only [List.mem_append, List.mem_cons, List.not_mem_nil, or_false] at hv2
            rcases hv2 with (rfl | rfl | rfl) | rfl
            · exact hin sc scl sco
            · exact hin th thl tho
            · exact hin sc scl sco
            · exact hvq
          wtm_at "aw"
          have hix : ixN found.length (p : Int) = some p := by
            unfold ixN
            rw [if_pos (by omega), Int.toNat_natCast, if_pos (by omega)]
          refine r_onO hix ?_
          wtm_at "aw"
          refine ⟨E11, found.set p v2, _, _, ⟨rfl, sput_two2 _ _ G _ _⟩, by rw [List.length_set, hfl], fun u hu => ?_, ?_, hE11.up (by omega)⟩
          · rcases List.mem_or_eq_of_mem_set hu with hu | rfl
            · exact hfH u hu
            · exact hq2
          · rw [knO_set, Nat.zero_add]
            unfold LS.df at hfd ⊢
            rw [List.length_set]
            have := dfc_set (knO b 0 found) (kOf b (p + 1) v2) hd (j := p) (n := (knO b 0 found).length)
            omega
        · rintro _ _ ⟨E9, found, v11, v12, ⟨rfl, rfl⟩, hfl, hfH, hfd, hE9⟩
          rw [List.length_map, hpl] at hfd hE9
          have hG : ∀ E4, sget (dk1 E4 (G ++ [.lst found])) (G.length + 2) = some found := fun E4 => sget_two _ _ G _
          wtm_at "aw"
          refine ret found few E9 _ hfH hfl (fun e => ⟨hd, hdl, hdo, ?_⟩) (hE9.up (by omega))
          rw [if_pos e] at hc
          omega
def asp_hrd : AL := fun vs S P => ∃ (E : Dk) (G : Sto) (n : Int) (b L bd : Nat), vs = [.own 1, .int (b : Nat), .int (L : Nat), .int (bd : Nat)] ∧ S = dk1 E G ∧ E.Ok n ∧ n ≤ 800000000 ∧ 1 ≤ b ∧ b ≤ 1000000000000 ∧ 5 ≤ L ∧ L ≤ 30 ∧ bd ≤ 3 ∧
  ∀ hs few E', (∀ v ∈ hs, Hq v) → hs.length = L → (few = true → ∃ hd : List Int, hd.length = L ∧ (∀ x ∈ hd, 0 ≤ x ∧ x < (b : Int)) ∧ LS.df (knO b 0 hs) hd ≤ bd) → E'.Ok (n + 400) → P (.tup [.tup hs, .bl few]) (dk1 E' G)
theorem hrd_weak {k : Nat} {f : Addr} {fd : FuncData} {ps : List Str} (F : FnG P w K mg base CX0 k f fd ps (cSp K asp_hrd0)) : FnG P w K mg base CX0 k f fd ps (cSp K asp_hrd) :=
  fnG_weak (fnG_trimC F) fun vs S R ⟨E, G, n, b, L, bd, h1, h2, h3, h4, h5, h6, h7, h8, h9, ret⟩ hc => ⟨E, G, n, b, L, bd, h1, h2, h3, h4, h5, h6, h7, h8, h9, fun hs few E' J a1 a2 a3 a4 => r_trimV (S1 := dk1 E' G) (J := J) rfl (by rw [h2]; exact Nat.le_refl _) (by
    have : blws (dk1 E' G).length hs = true := by
      rw [blws_all, List.all_eq_true]
      exact fun v hv => pd_blw (a1 v hv).pd
    show ((blws (dk1 E' G).length hs) && (true && true)) = true
    rw [this]
    rfl) (blwS_dk1 (by rw [← h2]; exact hc)) (ret hs few E' a1 a2 a3 a4)⟩
end
end K16

namespace K16
open LS
section
variable {P : Program} {w : World} {K : PySem.W.Frag} {mg : Str → Option Value} {base : Heap} {D : Ad} {n : Nat}
def noInt : PV → Bool
  | .int _ => false
  | _ => true
theorem noInt_nil {b : Nat} : ∀ {xs : List PV}, xs.filter noInt = [] → ∃ t, xs = iL t
  | [], _ => ⟨[], rfl⟩
  | x :: r, h => by
    cases x with
    | int i =>
      have h : r.filter noInt = [] := h
      obtain ⟨t, rfl⟩ := noInt_nil (b := b) h
      exact ⟨i :: t, rfl⟩
    | _ => exact nomatch (h : _ :: _ = [])
theorem noInt_all {b : Nat} : ∀ {xs : List PV}, xs.filter noInt ≠ [] → xs.all (isIdx b) = false
  | [], h => absurd rfl h
  | x :: r, h => by
    cases x with
    | int i =>
      have h : r.filter noInt ≠ [] := h
      rw [List.all_cons, noInt_all h, Bool.and_false]
    | _ => rfl
def outI (b : Nat) (z : Int) : Bool := !decide (0 ≤ z ∧ z < (b : Int))
theorem all_out (b : Nat) : ∀ t : List Int, (iL t).all (isIdx b) = (t.filter (outI b)).isEmpty
  | [] => rfl
  | z :: t => by
    show (decide (0 ≤ z ∧ z < (b : Int)) && (iL t).all (isIdx b)) = _
    rw [all_out b t, List.filter_cons]
    unfold outI
    by_cases h : 0 ≤ z ∧ z < (b : Int)
    · rw [decide_eq_true h]; rfl
    · rw [decide_eq_false h]; rfl
def asp_isl : AL := fun vs S P => ∃ (v : PV) (m b : Nat), vs = [v, .int (m : Nat), .int (b : Nat)] ∧ Hv v ∧ P (.bl (isSym m b v)) S
theorem ok_isl (T : Txt K mg D) {f : Addr} {fd : FuncData} (F : Fun K "_law_is_list" "_law_is_list" st__law_is_list f fd) : FnG P w K mg base CX0 (n + 1) f fd ["_law_thing", "_law_length", "_law_limit"] (cSp K asp_isl) := by
  refine oa__law_is_list T F (fun vs S R h => ?_) (fun vs S R h => ?_)
  · obtain ⟨v, m, b, rfl, _⟩ := h
    rfl
  · obtain ⟨v, m, b, rfl, hv, ret⟩ := h
    dsimp only [sv__law_is_list, pk]
    cases hv with
    | tup xs hx hl =>
      have e : isSym m b (.tup xs) = (decide (xs.length = m) && xs.all (isIdx b)) := rfl
      rw [e] at ret
      wtm_at "aw"
      refine r_br (fun h => ?_) (fun h => ?_)
      · rw [decide_eq_true (by omega : xs.length = m), Bool.true_and] at ret
        wtm_at "aw"
        refine comp_one (fun i S' acc => ∃ _ : Unit, S' = S ∧ acc = (xs.take i).filter noInt) ⟨(), rfl, rfl⟩ ?_ ?_
        · rintro i x S _ hi ⟨_, rfl, rfl⟩
          have hil := (List.getElem?_eq_some_iff.mp hi).1
          have hlen : ((xs.take i).filter noInt).length ≤ 3000 := Nat.le_trans (List.length_filter_le ..) (by rw [List.length_take]; omega)
          have enx : (xs.take (i + 1)).filter noInt = (xs.take i).filter noInt ++ [x].filter noInt := by
            rw [List.take_succ, hi, Option.toList_some, List.filter_append]
          rw [enx]
          cases hx x (List.mem_of_getElem? hi) with
          | int i =>
            wtm_at "aw"
            exact ⟨(), rfl, (List.append_nil _).symm⟩
          | _ =>
            wtm_at "aw"
            exact ⟨(), rfl, rfl⟩
        · rintro S _ ⟨_, rfl, rfl⟩
          rw [List.take_length]
          wtm_at "aw"
          cases hn : xs.filter noInt with
          | cons y ys =>
            rw [noInt_all (by rw [hn]; exact List.cons_ne_nil _ _)] at ret
            exact r_cF rfl ret
          | nil =>
            obtain ⟨t, rfl⟩ := noInt_nil (b := b) hn
            rw [all_out] at ret
            refine r_cT rfl ?_
            wtm_at "aw"
            refine comp_one (xs := iL t) (fun i S' acc => ∃ _ : Unit, S' = S ∧ acc = iL ((t.take i).filter (outI b))) ⟨(), rfl, rfl⟩ ?_ ?_
            · rintro i x S _ hi ⟨_, rfl, rfl⟩
              obtain ⟨z, hz, rfl⟩ := map_at hi
              have hil := (List.getElem?_eq_some_iff.mp hz).1
              have htl : t.length ≤ 3000 := by rw [List.length_map] at hl; exact hl
              have hlen : (iL ((t.take i).filter (outI b))).length ≤ 3000 := by rw [List.length_map]; exact Nat.le_trans (List.length_filter_le ..) (by rw [List.length_take]; omega)
              have enx : iL ((t.take (i + 1)).filter (outI b)) = iL ((t.take i).filter (outI b)) ++ iL ([z].filter (outI b)) := by
                rw [List.take_succ, hz, Option.toList_some, List.filter_append, iLa]
              rw [enx]
              wtm_at "aw"
              have eT : 0 ≤ z ∧ z < (b : Int) → [z].filter (outI b) = [] := fun h => by
                unfold outI
                rw [List.filter_cons, decide_eq_true h]
                rfl
              have eF : ¬ (0 ≤ z ∧ z < (b : Int)) → [z].filter (outI b) = [z] := fun h => by
                unfold outI
                rw [List.filter_cons, decide_eq_false h]
                rfl
              refine r_br (fun h0 => ?_) (fun h0 => ?_)
              · wtm_at "aw"
                refine r_br (fun h => ?_) (fun h => ?_)
                · rw [eT ⟨h0, h⟩]
                  wtm_at "aw"
                  exact ⟨(), rfl, (List.append_nil _).symm⟩
                · rw [eF fun q => h q.2]
                  wtm_at "aw"
                  exact ⟨(), rfl, rfl⟩
              · rw [eF fun q => h0 q.1]
                wtm_at "aw"
                exact ⟨(), rfl, rfl⟩
            · rintro S _ ⟨_, rfl, rfl⟩
              rw [List.length_map, List.take_length]
              wtm_at "aw"
              have e : (iL (t.filter (outI b))).isEmpty = (t.filter (outI b)).isEmpty := by cases t.filter (outI b) <;> rfl
              rw [e]
              exact ret
      · rw [decide_eq_false (by omega), Bool.false_and] at ret
        wtm_at "aw"
        exact ret
    | int i => wtm_at "aw"; exact ret
    | bl i => wtm_at "aw"; exact ret
    | non => wtm_at "aw"; exact ret
    | str i => wtm_at "aw"; exact ret
    | lst i => wtm_at "aw"; exact ret
    | dct ks xs => wtm_at "aw"; exact ret
/-- the lists that are known -/
def knl (kn : LS.Kn) : List (List Int) := kn.filterMap id
theorem mem_knl {kn : LS.Kn} {s : List Int} : s ∈ knl kn ↔ some s ∈ kn := by
  unfold knl
  rw [List.mem_filterMap]
  exact ⟨fun ⟨a, h, e⟩ => by cases e; exact h, fun h => ⟨_, h, rfl⟩⟩
theorem knO_mem {b : Nat} {hs : List PV} {s : List Int} (h : some s ∈ knO b 0 hs) : s.length ≤ hs.length ∧ ∀ x ∈ s, 0 ≤ x ∧ x < (b : Int) := by
  obtain ⟨i, hi⟩ := List.getElem?_of_mem h
  have hl := (List.getElem?_eq_some_iff.mp hi).1
  rw [knO_len] at hl
  have := knO_at b 0 hs i _ (List.getElem?_eq_getElem hl)
  rw [hi] at this
  obtain ⟨_, h2, h3⟩ := kOf_some (Option.some.inj this).symm
  exact ⟨by omega, h3⟩
def asp_due : AL := fun vs S P => ∃ (b : Nat) (hs : List PV) (bd : Int), vs = [.tup hs, .int (b : Nat), .int bd] ∧ 1 ≤ b ∧ b ≤ 1000000000000 ∧ 5 ≤ hs.length ∧ hs.length ≤ 30 ∧ (∀ v ∈ hs, Hv v) ∧ ∀ t, LS.Ext (b : Int) hs.length [] t → (∀ u, LS.Ext (b : Int) hs.length [] u → LS.Leq (knO b 0 hs) t u) → P (if (df (knO b 0 hs) t : Int) ≤ bd then tupP t else .non) S
theorem ok_due (T : Txt K mg D) (c0 : Cg P w K mg base CX0 n "_law_is_list" (cSp K asp_isl)) {f : Addr} {fd : FuncData} (F : Fun K "_law_due" "_law_due" st__law_due f fd) : FnG P w K mg base CX0 (n + 1) f fd ["_law_heard_here", "_law_limit", "_law_bound"] (cSp K asp_due) := by
  refine oa__law_due T (cg__law_is_list := c0) F (fun vs S R h => ?_) (fun vs S R h => ?_)
  · obtain ⟨b, hs, bd, rfl, _⟩ := h
    rfl
  · obtain ⟨b, hs, bd, rfl, hb1, hb2, hl5, hl30, hH, ret⟩ := h
    have hkl := knO_len b 0 hs
    have hka := knO_at b 0 hs
    have hko : ∀ s, some s ∈ knO b 0 hs → s.length ≤ hs.length ∧ ∀ x ∈ s, 0 ≤ x ∧ x < (b : Int) := fun s h => knO_mem h
    generalize hkn : knO b 0 hs = kn at *
    dsimp only [sv__law_due, pk]
    wtm_at "aw"
    refine comp_enum (fun i S' acc => ∃ _ : Unit, S' = S ∧ acc = (kn.take i).map oP) ⟨(), rfl, rfl⟩ ?_ ?_
    · rintro i v S _ hi ⟨_, rfl, rfl⟩
      have hil := (List.getElem?_eq_some_iff.mp hi).1
      have hlen : ((kn.take i).map oP).length ≤ 30 := by rw [List.length_map, List.length_take]; omega
      have hk := hka i v hi
      rw [Nat.zero_add] at hk
      have enx : (kn.take (i + 1)).map oP = (kn.take i).map oP ++ [if isSym (i + 1) b v = true then v else .non] := by
        rw [List.take_succ, hk, Option.toList_some, List.map_append, ← oP_kOf]
        rfl
      rw [enx]
      wtm_at "aw"
      refine ⟨fun p S' => p = (if isSym (i + 1) b v = true then v else .non) ∧ S' = S, ?_, ?_⟩
      · wtm_at "aw"
        refine ⟨v, i + 1, b, rfl, hH v (List.mem_of_getElem? hi), ?_⟩
        wtm_at "aw"
        by_cases e : isSym (i + 1) b v = true
        · refine r_cT e ?_
          rw [if_pos e]
          exact ⟨rfl, rfl⟩
        · refine r_cF (by simpa using e) ?_
          rw [if_neg e]
          exact ⟨rfl, rfl⟩
      · rintro _ _ ⟨rfl, rfl⟩
        wtm_at "aw"
        exact ⟨(), rfl, rfl⟩
    · rintro S _ ⟨_, rfl, rfl⟩
      rw [List.take_of_length_le (by omega)]
      wtm_at "aw"
      refine comp_one (xs := kn.map oP) (fun i S' acc => ∃ _ : Unit, S' = S ∧ acc = (knl (kn.take i)).map tupP) ⟨(), rfl, rfl⟩ ?_ ?_
      · rintro i v S _ hi ⟨_, rfl, rfl⟩
        obtain ⟨o, ho, rfl⟩ : ∃ o, kn[i]? = some o ∧ oP o = v := by
          rw [List.getElem?_map] at hi
          exact Option.map_eq_some_iff.mp hi
        have hlen : ((knl (kn.take i)).map tupP).length ≤ 30 := by
          rw [List.length_map]
          exact Nat.le_trans (List.length_filterMap_le ..) (by rw [List.length_take]; omega)
        have enx : (knl (kn.take (i + 1))).map tupP = (knl (kn.take i)).map tupP ++ (knl [o]).map tupP := by
          unfold knl
          rw [List.take_succ, ho, Option.toList_some, List.filterMap_append, List.map_append]
        rw [enx]
        cases o with
        | none =>
          dsimp only [oP]
          wtm_at "aw"
          exact ⟨(), rfl, (List.append_nil _).symm⟩
        | some u =>
          dsimp only [oP, tupP]
          wtm_at "aw"
          exact ⟨(), rfl, rfl⟩
      · rintro S _ ⟨_, rfl, rfl⟩
        rw [List.length_map, List.take_length]
        have hcl : (knl kn).length ≤ 30 := Nat.le_trans (List.length_filterMap_le ..) (by omega)
        have hcm : ∀ s ∈ ([] : List Int) :: knl kn, s.length ≤ hs.length ∧ ∀ x ∈ s, 0 ≤ x ∧ x < (b : Int) := fun s h => by
          rcases List.mem_cons.mp h with rfl | h
          · exact ⟨Nat.zero_le _, fun _ h => absurd h List.not_mem_nil⟩
          · exact hko s (mem_knl.mp h)
        have hcL : ((knl kn).map tupP).length ≤ 30 := by rw [List.length_map]; exact hcl
        wtm_at "aw"
        refine loop_one (xs := (([] : List Int) :: knl kn).map tupP) (fun k ρ S' => ∃ (best v6 v7 v8 : Option PV), (ρ = [some (.tup hs), some (.int (b : Nat)), some (.int bd), some (.int (hs.length : Nat)), best, some (.lst (kn.map oP)), v6, v7, v8, none, none] ∧ S' = S) ∧ ((k = 0 ∧ best = some .non) ∨ ∃ t, LS.Ext (b : Int) hs.length [] t ∧ (∀ s ∈ (([] : List Int) :: knl kn).take k, LS.Leq kn t (LS.candz hs.length s)) ∧ best = some (.tup [.int (df kn t : Nat), tupP t]))) ⟨_, _, _, _, ⟨rfl, rfl⟩, .inl ⟨rfl, rfl⟩⟩ ?_ ?_
        · rintro k x _ S1 hx ⟨best, v6, v7, v8, ⟨rfl, rfl⟩, hbest⟩
          obtain ⟨s, hs1, rfl⟩ : ∃ s, (([] : List Int) :: knl kn)[k]? = some s ∧ tupP s = x := by
            rw [List.getElem?_map] at hx
            exact Option.map_eq_some_iff.mp hx
          obtain ⟨hsl, hso⟩ := hcm s (List.mem_of_getElem? hs1)
          have hil : (iL s).length = s.length := List.length_map ..
          have hcE : LS.Ext (b : Int) hs.length [] (LS.candz hs.length s) := by
            refine ⟨by unfold LS.candz; rw [List.length_append, List.length_replicate]; omega, rfl, fun x hx => ?_⟩
            rcases List.mem_append.mp hx with hx | hx
            · exact hso x hx
            · rw [(List.mem_replicate.mp hx).2]; omega
          have ecz : iL s ++ (List.replicate ((hs.length : Int) - (s.length : Int)).toNat [PV.int 0]).flatten = iL (LS.candz hs.length s) := by
            unfold LS.candz
            rw [rep_flat, iL_rep, iLa, show ((hs.length : Int) - (s.length : Int)).toNat = hs.length - s.length by omega]
          have hrl : ((List.replicate ((hs.length : Int) - (s.length : Int)).toNat [PV.int 0]).flatten).length ≤ 30 := by
            rw [rep_flat, List.length_replicate]; omega
          unfold tupP
          wtm_at "aw"
          rw [hil, ecz]
          have hcl2 := hcE.len
          have hadd : ∀ t, (∀ s' ∈ (([] : List Int) :: knl kn).take k, LS.Leq kn t (LS.candz hs.length s')) → LS.Leq kn t (LS.candz hs.length s) → ∀ s' ∈ (([] : List Int) :: knl kn).take (k + 1), LS.Leq kn t (LS.candz hs.length s') := fun t h1 h2 s' hs' => by
            rw [List.take_succ, hs1, Option.toList_some, List.mem_append, List.mem_singleton] at hs'
            rcases hs' with hs' | rfl
            · exact h1 s' hs'
            · exact h2
          have hdf : ∀ u, df kn u = dfc kn u hs.length := fun u => by unfold df; rw [hkl]
          generalize LS.candz hs.length s = c at *
          refine comp_enum (xs := kn.map oP) (fun i S' acc => ∃ _ : Unit, S' = S1 ∧ acc = List.replicate (dfc kn c i) (.int 1)) ⟨(), rfl, rfl⟩ ?_ ?_
          · rintro i v S2 _ hi ⟨_, rfl, rfl⟩
            obtain ⟨o, ho, rfl⟩ : ∃ o, kn[i]? = some o ∧ oP o = v := by
              rw [List.getElem?_map] at hi
              exact Option.map_eq_some_iff.mp hi
            have hil2 := (List.getElem?_eq_some_iff.mp ho).1
            have ecut : cutP (iL c) none (some ((i : Int) + 1)) = iL (c.take (i + 1)) := cut_iLT c (i + 1)
            have hdl : dfc kn c i ≤ i := by
              have := (dfc_mono kn c (Nat.zero_le i)).2
              rw [dfc] at this
              omega
            have hdl2 : (List.replicate (dfc kn c i) (PV.int 1)).length ≤ 30 := by rw [List.length_replicate]; omega
            have hdc : dfc kn c (i + 1) = dfc kn c i + if hit kn c i = true then 0 else 1 := rfl
            have hkv : hit kn c i = decide (o = some (c.take (i + 1))) := by
              unfold hit
              rw [ho, decide_eq_decide, Option.some.injEq]
            have e1 : eqOk (.tup (iL (c.take (i + 1)))) := eqOk_iT _
            rw [hdc, hkv]
            cases o with
            | none =>
              dsimp only [oP]
              have hqn : eqOk .non := ⟨rfl, by decide +kernel⟩
              have ev : PyData.eqv (dat .non) (dat (.tup (iL (c.take (i + 1))))) = false := by rw [dat, dat]; simp [PyData.eqv]
              rw [show decide ((none : Option (List Int)) = some (c.take (i + 1))) = false from rfl, if_neg Bool.false_ne_true]
              wtm_at "aw"
              rw [ecut]
              wtm_at "aw"
              change br (PyData.eqv (dat .non) (dat (.tup (iL (c.take (i + 1)))))) _ _
              rw [ev]
              refine r_cF rfl ?_
              wtm_at "aw"
              exact ⟨(), rfl, (List.replicate_succ' ..).symm⟩
            | some u =>
              dsimp only [oP, tupP]
              have e2 : eqOk (.tup (iL u)) := eqOk_iT _
              have ev := eqv_iT u (c.take (i + 1))
              rw [show decide (some u = some (c.take (i + 1))) = decide (u = c.take (i + 1)) by rw [decide_eq_decide, Option.some.injEq]]
              wtm_at "aw"
              rw [ecut]
              wtm_at "aw"
              change br (PyData.eqv (dat (.tup (iL u))) (dat (.tup (iL (c.take (i + 1)))))) _ _
              rw [ev]
              by_cases h : u = c.take (i + 1)
              · rw [decide_eq_true h, if_pos rfl]
                refine r_cT rfl ?_
                exact ⟨(), rfl, rfl⟩
              · rw [decide_eq_false h, if_neg Bool.false_ne_true]
                refine r_cF rfl ?_
                wtm_at "aw"
                exact ⟨(), rfl, (List.replicate_succ' ..).symm⟩
          · rintro S _ ⟨_, rfl, rfl⟩
            rw [List.length_map, hkl, ← hdf]
            rcases hbest with ⟨rfl, rfl⟩ | ⟨t, htE, ht, rfl⟩
            · wtm_at "aw"
              rw [List.length_replicate]
              exact ⟨_, _, _, _, ⟨rfl, rfl⟩, .inr ⟨c, hcE, hadd c (fun _ h => absurd h (by rw [List.take_zero]; exact List.not_mem_nil)) LS.Leq.refl, rfl⟩⟩
            · have htl := htE.len
              unfold tupP
              wtm_at "aw"
              rw [List.length_replicate]
              refine ⟨⟨(df kn c : Nat), c, (df kn t : Nat), t, rfl, rfl, ?_⟩⟩
              by_cases h : (if ((df kn c : Nat) : Int) = ((df kn t : Nat) : Int) then L3.lx c t else decide (((df kn c : Nat) : Int) < ((df kn t : Nat) : Int))) = true
              · have hn := LS.Leq.new (kn := kn) (t := t) (u := c) (by omega) h
                rw [h]
                refine r_cT rfl ?_
                wtm_at "aw"
                exact ⟨_, _, _, _, ⟨rfl, rfl⟩, .inr ⟨c, hcE, hadd c (fun s' hs' => hn.trans (ht s' hs')) LS.Leq.refl, rfl⟩⟩
              · have hn := LS.Leq.old (kn := kn) (t := t) (u := c) (by omega) h
                rw [(Bool.not_eq_true _).mp h]
                refine r_cF rfl ?_
                wtm_at "aw"
                exact ⟨_, _, _, _, ⟨rfl, rfl⟩, .inr ⟨t, htE, hadd t ht hn, rfl⟩⟩
        · rintro _ _ ⟨best, v6, v7, v8, ⟨rfl, rfl⟩, hbest⟩
          rw [List.length_map] at hbest
          rcases hbest with ⟨h0, _⟩ | ⟨t, htE, ht, rfl⟩
          · rw [List.length_cons] at h0; omega
          · rw [List.take_length] at ht
            have ret := ret t htE fun u hu => LS.Leq.all hkl hu (ht [] List.mem_cons_self) fun s hs' => ht s (List.mem_cons_of_mem _ (mem_knl.mpr hs'))
            unfold tupP
            wtm_at "aw"
            refine r_br (fun h => ?_) (fun h => ?_)
            · rw [if_pos h] at ret
              wtm_at "aw"
              exact ret
            · rw [if_neg h] at ret
              wtm_at "aw"
              exact ret
end
end K16

namespace K16
open LS
section
variable {P : Program} {w : World} {K : PySem.W.Frag} {mg : Str → Option Value} {base : Heap} {D : Ad} {n : Nat}
theorem ext_pd {b L : Nat} {t : List Int} (hb : b ≤ 1000000000000) (hL : L ≤ 30) (h : LS.Ext (b : Int) L [] t) : Pd big 1 (tupP t) ∧ L5.tl (tupP t) ≤ 2000 := ⟨pd_ints fun x hx => by
  have := h.ok x hx
  exact okI_of (by omega) (by omega), by
  have := h.len
  rw [tl_tupP]; omega⟩
theorem res_pd {kn : LS.Kn} {most : Int} {b L : Nat} {b' : LS.Bst} (hb : b ≤ 1000000000000) (hL : L ≤ 30) (h : LS.Res kn most (LS.Ext (b : Int) L []) none b') : Pd big 1 (oP (b'.map Prod.snd)) ∧ L5.tl (oP (b'.map Prod.snd)) ≤ 2000 := by
  rcases h.sound with rfl | ⟨t, h1, _, rfl⟩
  · exact ⟨trivial, by decide⟩
  · exact ext_pd hb hL h1
theorem res_due {kn : LS.Kn} {most : Int} {b L : Nat} {b' : LS.Bst} {t : List Int} (h : LS.Res kn most (LS.Ext (b : Int) L []) none b') (ht : LS.Ext (b : Int) L [] t) (hf : ∀ u, LS.Ext (b : Int) L [] u → LS.Leq kn t u) : oP (b'.map Prod.snd) = if (df kn t : Int) ≤ most then tupP t else .non := by
  rw [LS.Res.due2 h ht hf]
  split <;> rfl
def asp_law : AL := fun vs S P => ∃ ns : List Int, vs = [.scr ns] ∧ S = [] ∧ ns.length ≤ 63 ∧ ∀ S', P (.bl true) S'
theorem ok_law (T : Txt K mg D) (c0 : Cg P w K mg base CX0 n "_law_deck" (cSp K (asp_source "numbers" "mixed" "choices" X0))) (c1 : Cg P w K mg base CX0 n "_law_draw" (cSp K (asp_drw "numbers" "mixed" "choices"))) (c2 : Cg P w K mg base CX0 n "_law_heard" (cSp K asp_hrd)) (c3 : Cg P w K mg base CX0 n "_law_due" (cSp K asp_due))
    (d0 : Cmk P w K mg base CX0 n D.ListCode "decoded" 0 ["most", "width", "letters"] (cSp K (askM 0 3 [2, 1, 0] (asp_dcd D)))) (d1 : Cmk P w K mg base CX0 n D.ListCode "decoded" 1 ["width", "most"] (cSp K (askM 1 2 [0, 1] (asp_dcd D))))
    {f : Addr} {fd : FuncData} (F : Fun K "law" "law" st_law f fd) : FnG P w K mg base CX0 (n + 1) f fd ["_law_script"] (cSp K asp_law) := by
  refine oa_law T (cg__law_deck := c0) (cg__law_heard := c2) (cg__law_draw := c1) (cg__law_due := c3) (cmk_ListCode_decoded1 := d1) (cmk_ListCode_decoded := d0) F (fun vs S R h => ?_) (fun vs S R h => ?_)
  · obtain ⟨ns, rfl, _⟩ := h
    rfl
  · obtain ⟨ns, rfl, rfl, hl, ret⟩ := h
    dsimp only [sv_law, pk]
    wtm_at "aw"
    refine ⟨ns, rfl, rfl, hl, fun E0 hE0 => ?_⟩
    wtm_at "aw"
    refine loop_rng0 (fun i ρ S' => ∃ (E : Dk) (G : Sto) (v3 v4 v5 v6 v7 v8 v9 v10 v11 : Option PV), (ρ = [some (.scr ns), some (.own 1), some (cL D), v3, v4, v5, v6, v7, v8, v9, v10, v11] ∧ S' = dk1 E G) ∧ E.Ok (1000 * i)) ⟨E0, [], _, _, _, _, _, _, _, _, _, ⟨rfl, rfl⟩, hE0.up (by decide)⟩ ?_ ?_
    · clear hE0
      rintro i _ _ hi ⟨E, G, v3, v4, v5, v6, v7, v8, v9, v10, v11, ⟨rfl, rfl⟩, hE⟩
      have hi : i < 8 := hi
      wtm_at "aw"
      refine ⟨X0, E, G, _, _, rfl, rfl, by decide, hE, by omega, by omega, by omega, fun a E1 a0 a1 hE1 => ?_⟩
      obtain ⟨v, hv, hv3⟩ := at_int (xs := [PV.int 2, PV.int 3, PV.int 26, PV.int 126, PV.int (10 ^ Int.toNat 12)]) (i := a) a0 a1
      obtain ⟨b, rfl, hb1, hb2⟩ : ∃ b : Nat, v = .int (b : Nat) ∧ 1 ≤ b ∧ b ≤ 1000000000000 := by
        have := List.mem_of_getElem? hv3
        simp only [List.mem_cons, List.not_mem_nil, or_false] at this
        rcases this with rfl | rfl | rfl | rfl | rfl
        · exact ⟨2, rfl, by decide, by decide⟩
        · exact ⟨3, rfl, by decide, by decide⟩
        · exact ⟨26, rfl, by decide, by decide⟩
        · exact ⟨126, rfl, by decide, by decide⟩
        · exact ⟨1000000000000, congrArg PV.int (by decide +kernel), by decide, by decide⟩
      wtm_at "aw"
      refine r_onO hv ?_
      wtm_at "aw"
      refine ⟨X0, E1, G, _, _, rfl, rfl, by decide, hE1, by omega, by omega, by omega, fun l E2 l0 l1 hE2 => ?_⟩
      obtain ⟨L, hL⟩ : ∃ L : Nat, (5 : Int) + l = (L : Int) := ⟨(5 + l).toNat, by omega⟩
      have hL5 : 5 ≤ L := by omega
      have hL30 : L ≤ 30 := by omega
      wtm_at "aw"
      rw [hL]
      refine ⟨X0, E2, G, _, _, rfl, rfl, by decide, hE2, by omega, by omega, by omega, fun bd' E3 bd0 bd1 hE3 => ?_⟩
      obtain ⟨bd, rfl⟩ : ∃ bd : Nat, bd' = (bd : Int) := ⟨bd'.toNat, by omega⟩
      wtm_at "aw"
      refine ⟨E3, G, _, b, L, bd, rfl, rfl, hE3, by omega, hb1, hb2, hL5, hL30, by omega, fun hs few E4 hH hhl hfew hE4 => ?_⟩
      wtm_at "aw"
      have hhv : ∀ v ∈ hs, Hv v := fun v hv => (hH v hv).hv
      have hkl := (knO_len b 0 hs).trans hhl
      refine ⟨b, hs, bd, rfl, hb1, hb2, by omega, by omega, hhv, fun t htE ht => ?_⟩
      rw [hhl] at htE ht
      have hres : ∀ b', LS.Res (knO b 0 hs) bd (LS.Ext (b : Int) (knO b 0 hs).length []) none b' → oP (b'.map Prod.snd) = if (LS.df (knO b 0 hs) t : Int) ≤ bd then tupP t else .non := fun b' r => by
        rw [hkl] at r
        exact res_due r htE ht
      have hPd : ∃ v, (if (LS.df (knO b 0 hs) t : Int) ≤ bd then tupP t else .non) = v ∧ (Pd big 1 v ∧ L5.tl v ≤ 2000) ∧ ((v = .non ∧ few = false) ∨ ∃ u, v = .tup u) := ⟨_, rfl, by
        split
        · exact ⟨ext_pd hb2 hL30 htE, .inr ⟨_, rfl⟩⟩
        · rename_i hnot
          refine ⟨⟨trivial, by decide⟩, .inl ⟨rfl, ?_⟩⟩
          cases few with
          | false => rfl
          | true =>
            obtain ⟨hd, h1, h2, h3⟩ := hfew rfl
            have := ht hd ⟨h1, rfl, h2⟩
            rcases this with k | k <;> omega⟩
      obtain ⟨due, hdue, ⟨hd1, hd2⟩, hd3⟩ := hPd
      rw [hdue] at hres ⊢
      have hpl : Pd big 31 (.tup hs) := fun v hv => (hH v hv).pd
      have hrq : rqOk (.tup hs) := Pd.ok (p := .tup hs) hpl (by decide) (by
        have : ∀ l : List PV, (∀ v ∈ l, Hq v) → L5.tls l ≤ 150002 * l.length := fun l => by
          induction l with
          | nil => intro _; exact Nat.le_refl _
          | cons x l ih =>
            intro h
            have h1 := ih fun v hv => h v (List.mem_cons_of_mem _ hv)
            have h2 := (h x List.mem_cons_self).tl
            rw [L5.tls, List.length_cons]
            omega
        have := this hs hH
        rw [L5.tl]
        omega)
      have hq2 : Pd big 2 (.lst [due, due]) := fun x hx => by
        simp only [List.mem_cons, List.not_mem_nil, or_false, or_self] at hx
        subst hx; exact hd1
      have hrq2 : rqOk (.lst [due, due]) := Pd.ok (p := .lst [due, due]) hq2 (by decide) (by rw [L5.tl, L5.tls, L5.tls, L5.tls]; omega)
      wtm_at "aw"
      refine ⟨rfl, hs, b, bd, rfl, hhv, by omega, hb1, hb2, fun b' hR => ?_⟩
      rw [hres b' hR]
      wtm_at "aw"
      refine ⟨rfl, hs, b, bd, rfl, hhv, by omega, hb1, hb2, fun b' hR => ?_⟩
      rw [hres b' hR]
      wtm_at "aw"
      have hd4 : (due = .non ∧ few = false) ∨ (∃ u, due = .tup u ∧ few = false) ∨ (∃ u, due = .tup u ∧ few = true) := by
        rcases hd3 with h | ⟨u, h⟩
        · exact .inl h
        · cases few
          · exact .inr (.inl ⟨u, h, rfl⟩)
          · exact .inr (.inr ⟨u, h, rfl⟩)
      rcases hd4 with ⟨rfl, rfl⟩ | ⟨u, rfl, rfl⟩ | ⟨u, rfl, rfl⟩
      all_goals
        wtm_at "aw"
        refine ⟨rfl, hs, b, 3, rfl, hhv, by omega, hb1, hb2, fun b' hR => ?_⟩
        rw [hkl] at hR
        obtain ⟨hp1, hp2⟩ := res_pd hb2 hL30 hR
        have hrd := fun t => res_due (t := t) hR
        have hrq3 : rqOk (oP (b'.map Prod.snd)) := Pd.ok hp1 (by decide) (by omega)
        generalize oP (b'.map Prod.snd) = got at *
        wtm_at "aw"
        rw [hp1.rsv]
        refine ⟨hrq3, ?_⟩
        wtm_at "aw"
        refine ⟨b, hs, 3, rfl, hb1, hb2, by omega, by omega, hhv, fun t2 htE2 ht2 => ?_⟩
        rw [hhl] at htE2 ht2
        have e3 := hrd t2 htE2 ht2
        rw [← e3]
        wtm_at "aw"
        rw [hp1.rsv]
        refine ⟨hrq3, ?_⟩
        wtm_at "aw"
        exact ⟨E4, G, _, _, _, _, _, _, _, _, _, ⟨rfl, rfl⟩, hE4.up (by omega)⟩
    · rintro _ _ ⟨E, G, v3, v4, v5, v6, v7, v8, v9, v10, v11, ⟨rfl, rfl⟩, hE⟩
      wtm_at "aw"
      exact ret _
end
end K16

namespace K16
open SP
set_option maxHeartbeats 8000000 in
theorem all_mk {l : PySem.W.OpenLaw} {w : World} {K : PySem.W.Frag} {h : Heap} {mg : Str → Option Value} {fa f__law_deck f__law_draw f__law_list f__law_pick f__law_values f__law_heard f__law_is_list f__law_due f_next_symbols f_is_integer f_is_index f_is_symbol_list f_lists_heard f_law c_ListSearch c_ListCode c_Code f_ListSearch___init__ f_ListSearch_candidates f_ListSearch_is_possible f_ListSearch_descend f_ListSearch_fix f_ListCode_fewest f_ListCode_decoded : Addr} (X : K.In h) (G : h.Ns mainGlobals mg) (hfa : mg "law" = some (.ref fa))
    {od__law_deck an__law_deck : Option Addr} {sl__law_deck : Array (Option Value)} {oc__law_deck kV__law_deck dc__law_deck pm__law_deck cd__law_deck ct__law_deck : Value} {od__law_draw an__law_draw : Option Addr} {sl__law_draw : Array (Option Value)} {oc__law_draw kV__law_draw dc__law_draw pm__law_draw cd__law_draw ct__law_draw : Value} {od__law_list an__law_list : Option Addr} {sl__law_list : Array (Option Value)} {oc__law_list kV__law_list dc__law_list pm__law_list cd__law_list ct__law_list : Value} {od__law_pick an__law_pick : Option Addr} {sl__law_pick : Array (Option Value)} {oc__law_pick kV__law_pick dc__law_pick pm__law_pick cd__law_pick ct__law_pick : Value} {od__law_values an__law_values : Option Addr} {sl__law_values : Array (Option Value)} {oc__law_values kV__law_values dc__law_values pm__law_values cd__law_values ct__law_values : Value} {od__law_heard an__law_heard : Option Addr} {sl__law_heard : Array (Option Value)} {oc__law_heard kV__law_heard dc__law_heard pm__law_heard cd__law_heard ct__law_heard : Value} {od__law_is_list an__law_is_list : Option Addr} {sl__law_is_list : Array (Option Value)} {oc__law_is_list kV__law_is_list dc__law_is_list pm__law_is_list cd__law_is_list ct__law_is_list : Value} {od__law_due an__law_due : Option Addr} {sl__law_due : Array (Option Value)} {oc__law_due kV__law_due dc__law_due pm__law_due cd__law_due ct__law_due : Value} {od_next_symbols an_next_symbols : Option Addr} {sl_next_symbols : Array (Option Value)} {oc_next_symbols kV_next_symbols dc_next_symbols pm_next_symbols cd_next_symbols ct_next_symbols : Value} {od_is_integer an_is_integer : Option Addr} {sl_is_integer : Array (Option Value)} {oc_is_integer kV_is_integer dc_is_integer pm_is_integer cd_is_integer ct_is_integer : Value} {od_is_index an_is_index : Option Addr} {sl_is_index : Array (Option Value)} {oc_is_index kV_is_index dc_is_index pm_is_index cd_is_index ct_is_index : Value} {od_is_symbol_list an_is_symbol_list : Option Addr} {sl_is_symbol_list : Array (Option Value)} {oc_is_symbol_list kV_is_symbol_list dc_is_symbol_list pm_is_symbol_list cd_is_symbol_list ct_is_symbol_list : Value} {od_lists_heard an_lists_heard : Option Addr} {sl_lists_heard : Array (Option Value)} {oc_lists_heard kV_lists_heard dc_lists_heard pm_lists_heard cd_lists_heard ct_lists_heard : Value} {od_law an_law : Option Addr} {sl_law : Array (Option Value)} {oc_law kV_law dc_law pm_law cd_law ct_law : Value} {od_ListSearch___init__ an_ListSearch___init__ : Option Addr} {sl_ListSearch___init__ : Array (Option Value)} {oc_ListSearch___init__ kV_ListSearch___init__ dc_ListSearch___init__ pm_ListSearch___init__ cd_ListSearch___init__ ct_ListSearch___init__ : Value} {od_ListSearch_candidates an_ListSearch_candidates : Option Addr} {sl_ListSearch_candidates : Array (Option Value)} {oc_ListSearch_candidates kV_ListSearch_candidates dc_ListSearch_candidates pm_ListSearch_candidates cd_ListSearch_candidates ct_ListSearch_candidates : Value} {od_ListSearch_is_possible an_ListSearch_is_possible : Option Addr} {sl_ListSearch_is_possible : Array (Option Value)} {oc_ListSearch_is_possible kV_ListSearch_is_possible dc_ListSearch_is_possible pm_ListSearch_is_possible cd_ListSearch_is_possible ct_ListSearch_is_possible : Value} {od_ListSearch_descend an_ListSearch_descend : Option Addr} {sl_ListSearch_descend : Array (Option Value)} {oc_ListSearch_descend kV_ListSearch_descend dc_ListSearch_descend pm_ListSearch_descend cd_ListSearch_descend ct_ListSearch_descend : Value} {od_ListSearch_fix an_ListSearch_fix : Option Addr} {sl_ListSearch_fix : Array (Option Value)} {oc_ListSearch_fix kV_ListSearch_fix dc_ListSearch_fix pm_ListSearch_fix cd_ListSearch_fix ct_ListSearch_fix : Value} {od_ListCode_fewest an_ListCode_fewest : Option Addr} {sl_ListCode_fewest : Array (Option Value)} {oc_ListCode_fewest  dc_ListCode_fewest pm_ListCode_fewest cd_ListCode_fewest ct_ListCode_fewest : Value} {kd_ListCode_fewest : Addr} {kt_ListCode_fewest_start : Addr} {ko_ListCode_fewest_start : Option Addr} {ks_ListCode_fewest_start : Array (Option Value)} {kn_ListCode_fewest_start : Nat} {od_ListCode_decoded an_ListCode_decoded : Option Addr} {sl_ListCode_decoded : Array (Option Value)} {oc_ListCode_decoded kV_ListCode_decoded dc_ListCode_decoded pm_ListCode_decoded cd_ListCode_decoded ct_ListCode_decoded : Value} {tkc1 : Tok}
    (a__law_deck : PySem.W.nsIn K mainGlobals "_law_deck" = some (some (.ref f__law_deck)))
    (l__law_deck : K.lookup f__law_deck = some ⟨oc__law_deck, od__law_deck, .func (PySem.W.fnOf "_law_deck" "_law_deck" (defArgs st__law_deck) (defBody st__law_deck) (defScope st__law_deck) .none kV__law_deck dc__law_deck pm__law_deck an__law_deck cd__law_deck ct__law_deck), sl__law_deck⟩)
    (c__law_deck : PySem.W.codeIn K cd__law_deck "_law_deck" = true)
    (k__law_deck : PySem.W.keepIn K (.ref f__law_deck) = true)
    (a__law_draw : PySem.W.nsIn K mainGlobals "_law_draw" = some (some (.ref f__law_draw)))
    (l__law_draw : K.lookup f__law_draw = some ⟨oc__law_draw, od__law_draw, .func (PySem.W.fnOf "_law_draw" "_law_draw" (defArgs st__law_draw) (defBody st__law_draw) (defScope st__law_draw) .none kV__law_draw dc__law_draw pm__law_draw an__law_draw cd__law_draw ct__law_draw), sl__law_draw⟩)
    (c__law_draw : PySem.W.codeIn K cd__law_draw "_law_draw" = true)
    (k__law_draw : PySem.W.keepIn K (.ref f__law_draw) = true)
    (a__law_list : PySem.W.nsIn K mainGlobals "_law_list" = some (some (.ref f__law_list)))
    (l__law_list : K.lookup f__law_list = some ⟨oc__law_list, od__law_list, .func (PySem.W.fnOf "_law_list" "_law_list" (defArgs st__law_list) (defBody st__law_list) (defScope st__law_list) .none kV__law_list dc__law_list pm__law_list an__law_list cd__law_list ct__law_list), sl__law_list⟩)
    (c__law_list : PySem.W.codeIn K cd__law_list "_law_list" = true)
    (k__law_list : PySem.W.keepIn K (.ref f__law_list) = true)
    (a__law_pick : PySem.W.nsIn K mainGlobals "_law_pick" = some (some (.ref f__law_pick)))
    (l__law_pick : K.lookup f__law_pick = some ⟨oc__law_pick, od__law_pick, .func (PySem.W.fnOf "_law_pick" "_law_pick" (defArgs st__law_pick) (defBody st__law_pick) (defScope st__law_pick) .none kV__law_pick dc__law_pick pm__law_pick an__law_pick cd__law_pick ct__law_pick), sl__law_pick⟩)
    (c__law_pick : PySem.W.codeIn K cd__law_pick "_law_pick" = true)
    (k__law_pick : PySem.W.keepIn K (.ref f__law_pick) = true)
    (a__law_values : PySem.W.nsIn K mainGlobals "_law_values" = some (some (.ref f__law_values)))
    (l__law_values : K.lookup f__law_values = some ⟨oc__law_values, od__law_values, .func (PySem.W.fnOf "_law_values" "_law_values" (defArgs st__law_values) (defBody st__law_values) (defScope st__law_values) .none kV__law_values dc__law_values pm__law_values an__law_values cd__law_values ct__law_values), sl__law_values⟩)
    (c__law_values : PySem.W.codeIn K cd__law_values "_law_values" = true)
    (k__law_values : PySem.W.keepIn K (.ref f__law_values) = true)
    (a__law_heard : PySem.W.nsIn K mainGlobals "_law_heard" = some (some (.ref f__law_heard)))
    (l__law_heard : K.lookup f__law_heard = some ⟨oc__law_heard, od__law_heard, .func (PySem.W.fnOf "_law_heard" "_law_heard" (defArgs st__law_heard) (defBody st__law_heard) (defScope st__law_heard) .none kV__law_heard dc__law_heard pm__law_heard an__law_heard cd__law_heard ct__law_heard), sl__law_heard⟩)
    (c__law_heard : PySem.W.codeIn K cd__law_heard "_law_heard" = true)
    (k__law_heard : PySem.W.keepIn K (.ref f__law_heard) = true)
    (a__law_is_list : PySem.W.nsIn K mainGlobals "_law_is_list" = some (some (.ref f__law_is_list)))
    (l__law_is_list : K.lookup f__law_is_list = some ⟨oc__law_is_list, od__law_is_list, .func (PySem.W.fnOf "_law_is_list" "_law_is_list" (defArgs st__law_is_list) (defBody st__law_is_list) (defScope st__law_is_list) .none kV__law_is_list dc__law_is_list pm__law_is_list an__law_is_list cd__law_is_list ct__law_is_list), sl__law_is_list⟩)
    (c__law_is_list : PySem.W.codeIn K cd__law_is_list "_law_is_list" = true)
    (k__law_is_list : PySem.W.keepIn K (.ref f__law_is_list) = true)
    (a__law_due : PySem.W.nsIn K mainGlobals "_law_due" = some (some (.ref f__law_due)))
    (l__law_due : K.lookup f__law_due = some ⟨oc__law_due, od__law_due, .func (PySem.W.fnOf "_law_due" "_law_due" (defArgs st__law_due) (defBody st__law_due) (defScope st__law_due) .none kV__law_due dc__law_due pm__law_due an__law_due cd__law_due ct__law_due), sl__law_due⟩)
    (c__law_due : PySem.W.codeIn K cd__law_due "_law_due" = true)
    (k__law_due : PySem.W.keepIn K (.ref f__law_due) = true)
    (a_next_symbols : PySem.W.nsIn K mainGlobals "next_symbols" = some (some (.ref f_next_symbols)))
    (l_next_symbols : K.lookup f_next_symbols = some ⟨oc_next_symbols, od_next_symbols, .func (PySem.W.fnOf "next_symbols" "next_symbols" (defArgs st_next_symbols) (defBody st_next_symbols) (defScope st_next_symbols) .none kV_next_symbols dc_next_symbols pm_next_symbols an_next_symbols cd_next_symbols ct_next_symbols), sl_next_symbols⟩)
    (c_next_symbols : PySem.W.codeIn K cd_next_symbols "next_symbols" = true)
    (k_next_symbols : PySem.W.keepIn K (.ref f_next_symbols) = true)
    (a_is_integer : PySem.W.nsIn K mainGlobals "is_integer" = some (some (.ref f_is_integer)))
    (l_is_integer : K.lookup f_is_integer = some ⟨oc_is_integer, od_is_integer, .func (PySem.W.fnOf "is_integer" "is_integer" (defArgs st_is_integer) (defBody st_is_integer) (defScope st_is_integer) .none kV_is_integer dc_is_integer pm_is_integer an_is_integer cd_is_integer ct_is_integer), sl_is_integer⟩)
    (c_is_integer : PySem.W.codeIn K cd_is_integer "is_integer" = true)
    (k_is_integer : PySem.W.keepIn K (.ref f_is_integer) = true)
    (a_is_index : PySem.W.nsIn K mainGlobals "is_index" = some (some (.ref f_is_index)))
    (l_is_index : K.lookup f_is_index = some ⟨oc_is_index, od_is_index, .func (PySem.W.fnOf "is_index" "is_index" (defArgs st_is_index) (defBody st_is_index) (defScope st_is_index) .none kV_is_index dc_is_index pm_is_index an_is_index cd_is_index ct_is_index), sl_is_index⟩)
    (c_is_index : PySem.W.codeIn K cd_is_index "is_index" = true)
    (k_is_index : PySem.W.keepIn K (.ref f_is_index) = true)
    (a_is_symbol_list : PySem.W.nsIn K mainGlobals "is_symbol_list" = some (some (.ref f_is_symbol_list)))
    (l_is_symbol_list : K.lookup f_is_symbol_list = some ⟨oc_is_symbol_list, od_is_symbol_list, .func (PySem.W.fnOf "is_symbol_list" "is_symbol_list" (defArgs st_is_symbol_list) (defBody st_is_symbol_list) (defScope st_is_symbol_list) .none kV_is_symbol_list dc_is_symbol_list pm_is_symbol_list an_is_symbol_list cd_is_symbol_list ct_is_symbol_list), sl_is_symbol_list⟩)
    (c_is_symbol_list : PySem.W.codeIn K cd_is_symbol_list "is_symbol_list" = true)
    (k_is_symbol_list : PySem.W.keepIn K (.ref f_is_symbol_list) = true)
    (a_lists_heard : PySem.W.nsIn K mainGlobals "lists_heard" = some (some (.ref f_lists_heard)))
    (l_lists_heard : K.lookup f_lists_heard = some ⟨oc_lists_heard, od_lists_heard, .func (PySem.W.fnOf "lists_heard" "lists_heard" (defArgs st_lists_heard) (defBody st_lists_heard) (defScope st_lists_heard) .none kV_lists_heard dc_lists_heard pm_lists_heard an_lists_heard cd_lists_heard ct_lists_heard), sl_lists_heard⟩)
    (c_lists_heard : PySem.W.codeIn K cd_lists_heard "lists_heard" = true)
    (k_lists_heard : PySem.W.keepIn K (.ref f_lists_heard) = true)
    (a_law : PySem.W.nsIn K mainGlobals "law" = some (some (.ref f_law)))
    (l_law : K.lookup f_law = some ⟨oc_law, od_law, .func (PySem.W.fnOf "law" "law" (defArgs st_law) (defBody st_law) (defScope st_law) .none kV_law dc_law pm_law an_law cd_law ct_law), sl_law⟩)
    (c_law : PySem.W.codeIn K cd_law "law" = true)
    (k_law : PySem.W.keepIn K (.ref f_law) = true)
    (aC_ListSearch : PySem.W.nsIn K mainGlobals "ListSearch" = some (some (.ref c_ListSearch)))
    (aC_ListCode : PySem.W.nsIn K mainGlobals "ListCode" = some (some (.ref c_ListCode)))
    (aC_Code : PySem.W.nsIn K mainGlobals "Code" = some (some (.ref c_Code)))
    (pg_ListSearch : PySem.W.plainGet K c_ListSearch Str.empty = true)
    (hd_ListSearch : PySem.W.hasDictIn K c_ListSearch = true)
    (po_ListSearch : PySem.W.plainOver K c_ListSearch = true)
    (sa_ListSearch : PySem.W.findIn K (.ref c_ListSearch) "__setattr__" = some (some (.builtin "object.__setattr__")))
    (ha_ListSearch : PySem.W.findIn K (.ref c_ListSearch) "__class__" = some (some (.builtin "object.__class__")))
    (hm_ListSearch : PySem.W.mroIn K c_ListSearch (.type "object") = some true)
    (no_ListSearch_lists_known : PySem.W.findIn K (.ref c_ListSearch) "lists_known" = some none)
    (no_ListSearch_width_allowed : PySem.W.findIn K (.ref c_ListSearch) "width_allowed" = some none)
    (no_ListSearch_start_wanted : PySem.W.findIn K (.ref c_ListSearch) "start_wanted" = some none)
    (no_ListSearch_other_unwanted : PySem.W.findIn K (.ref c_ListSearch) "other_unwanted" = some none)
    (no_ListSearch_rounds_fixed : PySem.W.findIn K (.ref c_ListSearch) "rounds_fixed" = some none)
    (no_ListSearch_best_found : PySem.W.findIn K (.ref c_ListSearch) "best_found" = some none)
    (pg_ListCode : PySem.W.plainGet K c_ListCode Str.empty = true)
    (hd_ListCode : PySem.W.hasDictIn K c_ListCode = true)
    (po_ListCode : PySem.W.plainOver K c_ListCode = true)
    (sa_ListCode : PySem.W.findIn K (.ref c_ListCode) "__setattr__" = some (some (.builtin "object.__setattr__")))
    (ha_ListCode : PySem.W.findIn K (.ref c_ListCode) "__class__" = some (some (.builtin "object.__class__")))
    (hm_ListCode : PySem.W.mroIn K c_ListCode (.type "object") = some true)
    (hnO : PySem.W.specialIn K (.builtin "object.__class__") "__get__" = some (some (.builtin "getset_descriptor.__get__")))
    (htO : PySem.W.takesIn K (.builtin "object.__class__") = some true)
    (mk_ListSearch : PySem.W.makesIn K c_ListSearch = true)
    (kc_ListSearch : PySem.W.keepIn K (.ref c_ListSearch) = true)
    (mk_ListCode : PySem.W.makesIn K c_ListCode = true)
    (kc_ListCode : PySem.W.keepIn K (.ref c_ListCode) = true)
    (in_ListCode : PySem.W.findIn K (.ref c_ListCode) "__init__" = some (some (.builtin "object.__init__")))
    (at_ListSearch___init__ : PySem.W.findIn K (.ref c_ListSearch) "__init__" = some (some (.ref f_ListSearch___init__)))
    (fn_ListSearch___init__ : PySem.W.isFn K (.ref f_ListSearch___init__) = true)
    (l_ListSearch___init__ : K.lookup f_ListSearch___init__ = some ⟨oc_ListSearch___init__, od_ListSearch___init__, .func (PySem.W.fnOf "__init__" "ListSearch.__init__" (defArgs st_ListSearch___init__) (defBody st_ListSearch___init__) (defScope st_ListSearch___init__) .none kV_ListSearch___init__ dc_ListSearch___init__ pm_ListSearch___init__ an_ListSearch___init__ cd_ListSearch___init__ ct_ListSearch___init__), sl_ListSearch___init__⟩)
    (c_ListSearch___init__ : PySem.W.codeIn K cd_ListSearch___init__ "ListSearch.__init__" = true)
    (k_ListSearch___init__ : PySem.W.keepIn K (.ref f_ListSearch___init__) = true)
    (at_ListSearch_candidates : PySem.W.findIn K (.ref c_ListSearch) "candidates" = some (some (.ref f_ListSearch_candidates)))
    (fn_ListSearch_candidates : PySem.W.isFn K (.ref f_ListSearch_candidates) = true)
    (l_ListSearch_candidates : K.lookup f_ListSearch_candidates = some ⟨oc_ListSearch_candidates, od_ListSearch_candidates, .func (PySem.W.fnOf "candidates" "ListSearch.candidates" (defArgs st_ListSearch_candidates) (defBody st_ListSearch_candidates) (defScope st_ListSearch_candidates) .none kV_ListSearch_candidates dc_ListSearch_candidates pm_ListSearch_candidates an_ListSearch_candidates cd_ListSearch_candidates ct_ListSearch_candidates), sl_ListSearch_candidates⟩)
    (c_ListSearch_candidates : PySem.W.codeIn K cd_ListSearch_candidates "ListSearch.candidates" = true)
    (k_ListSearch_candidates : PySem.W.keepIn K (.ref f_ListSearch_candidates) = true)
    (at_ListSearch_is_possible : PySem.W.findIn K (.ref c_ListSearch) "is_possible" = some (some (.ref f_ListSearch_is_possible)))
    (fn_ListSearch_is_possible : PySem.W.isFn K (.ref f_ListSearch_is_possible) = true)
    (l_ListSearch_is_possible : K.lookup f_ListSearch_is_possible = some ⟨oc_ListSearch_is_possible, od_ListSearch_is_possible, .func (PySem.W.fnOf "is_possible" "ListSearch.is_possible" (defArgs st_ListSearch_is_possible) (defBody st_ListSearch_is_possible) (defScope st_ListSearch_is_possible) .none kV_ListSearch_is_possible dc_ListSearch_is_possible pm_ListSearch_is_possible an_ListSearch_is_possible cd_ListSearch_is_possible ct_ListSearch_is_possible), sl_ListSearch_is_possible⟩)
    (c_ListSearch_is_possible : PySem.W.codeIn K cd_ListSearch_is_possible "ListSearch.is_possible" = true)
    (k_ListSearch_is_possible : PySem.W.keepIn K (.ref f_ListSearch_is_possible) = true)
    (at_ListSearch_descend : PySem.W.findIn K (.ref c_ListSearch) "descend" = some (some (.ref f_ListSearch_descend)))
    (fn_ListSearch_descend : PySem.W.isFn K (.ref f_ListSearch_descend) = true)
    (l_ListSearch_descend : K.lookup f_ListSearch_descend = some ⟨oc_ListSearch_descend, od_ListSearch_descend, .func (PySem.W.fnOf "descend" "ListSearch.descend" (defArgs st_ListSearch_descend) (defBody st_ListSearch_descend) (defScope st_ListSearch_descend) .none kV_ListSearch_descend dc_ListSearch_descend pm_ListSearch_descend an_ListSearch_descend cd_ListSearch_descend ct_ListSearch_descend), sl_ListSearch_descend⟩)
    (c_ListSearch_descend : PySem.W.codeIn K cd_ListSearch_descend "ListSearch.descend" = true)
    (k_ListSearch_descend : PySem.W.keepIn K (.ref f_ListSearch_descend) = true)
    (at_ListSearch_fix : PySem.W.findIn K (.ref c_ListSearch) "fix" = some (some (.ref f_ListSearch_fix)))
    (fn_ListSearch_fix : PySem.W.isFn K (.ref f_ListSearch_fix) = true)
    (l_ListSearch_fix : K.lookup f_ListSearch_fix = some ⟨oc_ListSearch_fix, od_ListSearch_fix, .func (PySem.W.fnOf "fix" "ListSearch.fix" (defArgs st_ListSearch_fix) (defBody st_ListSearch_fix) (defScope st_ListSearch_fix) .none kV_ListSearch_fix dc_ListSearch_fix pm_ListSearch_fix an_ListSearch_fix cd_ListSearch_fix ct_ListSearch_fix), sl_ListSearch_fix⟩)
    (c_ListSearch_fix : PySem.W.codeIn K cd_ListSearch_fix "ListSearch.fix" = true)
    (k_ListSearch_fix : PySem.W.keepIn K (.ref f_ListSearch_fix) = true)
    (at_ListCode_fewest : PySem.W.findIn K (.ref c_ListCode) "fewest" = some (some (.ref f_ListCode_fewest)))
    (fn_ListCode_fewest : PySem.W.isFn K (.ref f_ListCode_fewest) = true)
    (l_ListCode_fewest : K.lookup f_ListCode_fewest = some ⟨oc_ListCode_fewest, od_ListCode_fewest, .func (PySem.W.fnOf "fewest" "ListCode.fewest" (defArgs st_ListCode_fewest) (defBody st_ListCode_fewest) (defScope st_ListCode_fewest) .none (.ref kd_ListCode_fewest) dc_ListCode_fewest pm_ListCode_fewest an_ListCode_fewest cd_ListCode_fewest ct_ListCode_fewest), sl_ListCode_fewest⟩)
    (kf_ListCode_fewest_start : PySem.W.nsIn K kd_ListCode_fewest "start" = some (some (.ref kt_ListCode_fewest_start)))
    (kl_ListCode_fewest_start : K.lookup kt_ListCode_fewest_start = some ⟨.type "tuple", ko_ListCode_fewest_start, .seq #[] kn_ListCode_fewest_start, ks_ListCode_fewest_start⟩)
    (kf_ListCode_fewest_other : PySem.W.nsIn K kd_ListCode_fewest "other" = some (some .none))
    (kf_ListCode_fewest_agree : PySem.W.nsIn K kd_ListCode_fewest "agree" = some (some .none))
    (kf_ListCode_fewest_differ : PySem.W.nsIn K kd_ListCode_fewest "differ" = some (some .none))
    (c_ListCode_fewest : PySem.W.codeIn K cd_ListCode_fewest "ListCode.fewest" = true)
    (k_ListCode_fewest : PySem.W.keepIn K (.ref f_ListCode_fewest) = true)
    (at_ListCode_decoded : PySem.W.findIn K (.ref c_ListCode) "decoded" = some (some (.ref f_ListCode_decoded)))
    (fn_ListCode_decoded : PySem.W.isFn K (.ref f_ListCode_decoded) = true)
    (l_ListCode_decoded : K.lookup f_ListCode_decoded = some ⟨oc_ListCode_decoded, od_ListCode_decoded, .func (PySem.W.fnOf "decoded" "Code.decoded" (defArgs st_ListCode_decoded) (defBody st_ListCode_decoded) (defScope st_ListCode_decoded) .none kV_ListCode_decoded dc_ListCode_decoded pm_ListCode_decoded an_ListCode_decoded cd_ListCode_decoded ct_ListCode_decoded), sl_ListCode_decoded⟩)
    (c_ListCode_decoded : PySem.W.codeIn K cd_ListCode_decoded "Code.decoded" = true)
    (k_ListCode_decoded : PySem.W.keepIn K (.ref f_ListCode_decoded) = true)
    (z_all : PySem.W.nsIn K mainGlobals "all" = some none)
    (z_bool : PySem.W.nsIn K mainGlobals "bool" = some none)
    (z_enumerate : PySem.W.nsIn K mainGlobals "enumerate" = some none)
    (z_int : PySem.W.nsIn K mainGlobals "int" = some none)
    (z_isinstance : PySem.W.nsIn K mainGlobals "isinstance" = some none)
    (z_len : PySem.W.nsIn K mainGlobals "len" = some none)
    (z_list : PySem.W.nsIn K mainGlobals "list" = some none)
    (z_range : PySem.W.nsIn K mainGlobals "range" = some none)
    (z_repr : PySem.W.nsIn K mainGlobals "repr" = some none)
    (z_sorted : PySem.W.nsIn K mainGlobals "sorted" = some none)
    (z_tuple : PySem.W.nsIn K mainGlobals "tuple" = some none)
    (rd_Code : PySem.W.readsIn K c_Code (.type "type") = true)
    (gc_Code : PySem.W.specialIn K (.ref c_Code) "__getattribute__" = some (some (.builtin "type.__getattribute__")))
    (cv_Code_LONGEST : PySem.W.findCls K (.ref c_Code) (.type "type") "LONGEST" = some (.val (.int 30 tkc1)))
    : ∃ fd : FuncData, (∀ (s : Shared) (v : Value), BindsTo s fd ⟨[v], []⟩ [("_law_script", v)]) ∧ ∀ base : Heap, K.In base → base.Ns mainGlobals mg → FnG l.prog w K mg base CX0 60 fa fd ["_law_script"] (cSp K asp_law) := by
  have e := hfa.symm.trans (PySem.W.mg_of X G a_law)
  cases e
  have T : Txt K mg (⟨c_ListSearch, c_ListCode, c_Code⟩ : Ad) := ⟨PySem.W.mg_none_of X G z_all, PySem.W.mg_none_of X G z_bool, PySem.W.mg_none_of X G z_enumerate, PySem.W.mg_none_of X G z_int, PySem.W.mg_none_of X G z_isinstance, PySem.W.mg_none_of X G z_len, PySem.W.mg_none_of X G z_list, PySem.W.mg_none_of X G z_range, PySem.W.mg_none_of X G z_repr, PySem.W.mg_none_of X G z_sorted, PySem.W.mg_none_of X G z_tuple, PySem.W.mg_of X G aC_ListSearch, ⟨⟨pg_ListSearch, hd_ListSearch, po_ListSearch, sa_ListSearch⟩, by decide +kernel, (fun f hf => by
    simp only [nm_ListSearch, List.mem_cons, List.not_mem_nil, or_false] at hf
    rcases hf with rfl | rfl | rfl | rfl | rfl | rfl
    · exact no_ListSearch_lists_known
    · exact no_ListSearch_width_allowed
    · exact no_ListSearch_start_wanted
    · exact no_ListSearch_other_unwanted
    · exact no_ListSearch_rounds_fixed
    · exact no_ListSearch_best_found
    ), ha_ListSearch, hnO, htO, hm_ListSearch, by decide⟩, PySem.W.mg_of X G aC_ListCode, ⟨⟨pg_ListCode, hd_ListCode, po_ListCode, sa_ListCode⟩, by decide +kernel, (fun f hf => by simp only [nm_ListCode, List.not_mem_nil] at hf), ha_ListCode, hnO, htO, hm_ListCode, by decide⟩, ⟨mk_ListCode, in_ListCode, kc_ListCode⟩, PySem.W.mg_of X G aC_Code, ⟨.type "type", .int 30 tkc1, ⟨rd_Code, gc_Code⟩, ⟨cv_Code_LONGEST, _, rfl⟩⟩⟩
  have F__law_deck := fun_mk (st := st__law_deck) l__law_deck c__law_deck k__law_deck
  have b__law_deck := F__law_deck.binds (ps := ["_law_script"]) fun _ _ _ _ _ _ us hl => match us, hl with | [_], _ => rfl
  have F__law_draw := fun_mk (st := st__law_draw) l__law_draw c__law_draw k__law_draw
  have b__law_draw := F__law_draw.binds (ps := ["_law_deck_here", "_law_limit"]) fun _ _ _ _ _ _ us hl => match us, hl with | [_, _], _ => rfl
  have F__law_list := fun_mk (st := st__law_list) l__law_list c__law_list k__law_list
  have b__law_list := F__law_list.binds (ps := ["_law_deck_here", "_law_limit", "_law_start", "_law_length"]) fun _ _ _ _ _ _ us hl => match us, hl with | [_, _, _, _], _ => rfl
  have F__law_pick := fun_mk (st := st__law_pick) l__law_pick c__law_pick k__law_pick
  have b__law_pick := F__law_pick.binds (ps := ["_law_deck_here", "_law_items"]) fun _ _ _ _ _ _ us hl => match us, hl with | [_, _], _ => rfl
  have F__law_values := fun_mk (st := st__law_values) l__law_values c__law_values k__law_values
  have b__law_values := F__law_values.binds (ps := ["_law_letter", "_law_limit"]) fun _ _ _ _ _ _ us hl => match us, hl with | [_, _], _ => rfl
  have F__law_heard := fun_mk (st := st__law_heard) l__law_heard c__law_heard k__law_heard
  have b__law_heard := F__law_heard.binds (ps := ["_law_deck_here", "_law_limit", "_law_length", "_law_bound"]) fun _ _ _ _ _ _ us hl => match us, hl with | [_, _, _, _], _ => rfl
  have F__law_is_list := fun_mk (st := st__law_is_list) l__law_is_list c__law_is_list k__law_is_list
  have b__law_is_list := F__law_is_list.binds (ps := ["_law_thing", "_law_length", "_law_limit"]) fun _ _ _ _ _ _ us hl => match us, hl with | [_, _, _], _ => rfl
  have F__law_due := fun_mk (st := st__law_due) l__law_due c__law_due k__law_due
  have b__law_due := F__law_due.binds (ps := ["_law_heard_here", "_law_limit", "_law_bound"]) fun _ _ _ _ _ _ us hl => match us, hl with | [_, _, _], _ => rfl
  have F_next_symbols := fun_mk (st := st_next_symbols) l_next_symbols c_next_symbols k_next_symbols
  have b_next_symbols := F_next_symbols.binds (ps := ["known", "symbols"]) fun _ _ _ _ _ _ us hl => match us, hl with | [_, _], _ => rfl
  have F_is_integer := fun_mk (st := st_is_integer) l_is_integer c_is_integer k_is_integer
  have b_is_integer := F_is_integer.binds (ps := ["thing"]) fun _ _ _ _ _ _ us hl => match us, hl with | [_], _ => rfl
  have F_is_index := fun_mk (st := st_is_index) l_is_index c_is_index k_is_index
  have b_is_index := F_is_index.binds (ps := ["thing", "limit"]) fun _ _ _ _ _ _ us hl => match us, hl with | [_, _], _ => rfl
  have F_is_symbol_list := fun_mk (st := st_is_symbol_list) l_is_symbol_list c_is_symbol_list k_is_symbol_list
  have b_is_symbol_list := F_is_symbol_list.binds (ps := ["thing", "length", "width"]) fun _ _ _ _ _ _ us hl => match us, hl with | [_, _, _], _ => rfl
  have F_lists_heard := fun_mk (st := st_lists_heard) l_lists_heard c_lists_heard k_lists_heard
  have b_lists_heard := F_lists_heard.binds (ps := ["letters", "width"]) fun _ _ _ _ _ _ us hl => match us, hl with | [_, _], _ => rfl
  have F_law := fun_mk (st := st_law) l_law c_law k_law
  have b_law := F_law.binds (ps := ["_law_script"]) fun _ _ _ _ _ _ us hl => match us, hl with | [_], _ => rfl
  have F_ListSearch___init__ := fun_mk (st := st_ListSearch___init__) l_ListSearch___init__ c_ListSearch___init__ k_ListSearch___init__
  have b_ListSearch___init__ := F_ListSearch___init__.binds (ps := ["self", "known", "width", "start", "other"]) fun _ _ _ _ _ _ us hl => match us, hl with | [_, _, _, _, _], _ => rfl
  have F_ListSearch_candidates := fun_mk (st := st_ListSearch_candidates) l_ListSearch_candidates c_ListSearch_candidates k_ListSearch_candidates
  have b_ListSearch_candidates := F_ListSearch_candidates.binds (ps := ["self", "symbols"]) fun _ _ _ _ _ _ us hl => match us, hl with | [_, _], _ => rfl
  have F_ListSearch_is_possible := fun_mk (st := st_ListSearch_is_possible) l_ListSearch_is_possible c_ListSearch_is_possible k_ListSearch_is_possible
  have b_ListSearch_is_possible := F_ListSearch_is_possible.binds (ps := ["self", "number", "is_same"]) fun _ _ _ _ _ _ us hl => match us, hl with | [_, _, _], _ => rfl
  have F_ListSearch_descend := fun_mk (st := st_ListSearch_descend) l_ListSearch_descend c_ListSearch_descend k_ListSearch_descend
  have b_ListSearch_descend := F_ListSearch_descend.binds (ps := ["self", "symbols", "count", "most"]) fun _ _ _ _ _ _ us hl => match us, hl with | [_, _, _, _], _ => rfl
  have F_ListSearch_fix := fun_mk (st := st_ListSearch_fix) l_ListSearch_fix c_ListSearch_fix k_ListSearch_fix
  have b_ListSearch_fix := F_ListSearch_fix.binds (ps := ["self", "number", "is_same"]) fun _ _ _ _ _ _ us hl => match us, hl with | [_, _, _], _ => rfl
  have F_ListCode_fewest := fun_mk (st := st_ListCode_fewest) l_ListCode_fewest c_ListCode_fewest k_ListCode_fewest
  have F_ListCode_decoded := fun_mk (st := st_ListCode_decoded) l_ListCode_decoded c_ListCode_decoded k_ListCode_decoded
  refine ⟨PySem.W.fnOf "law" "law" (defArgs st_law) (defBody st_law) (defScope st_law) .none kV_law dc_law pm_law an_law cd_law ct_law, fun s v => .of_eq rfl, fun base _ _ => ?_⟩
  have S__law_deck : ∀ {k : Nat} {sp : Sp}, FnG l.prog w K mg base CX0 k f__law_deck (PySem.W.fnOf "_law_deck" "_law_deck" (defArgs st__law_deck) (defBody st__law_deck) (defScope st__law_deck) .none kV__law_deck dc__law_deck pm__law_deck an__law_deck cd__law_deck ct__law_deck) ["_law_script"] sp → FnG l.prog w K mg base CX0 k f__law_deck (PySem.W.fnOf "_law_deck" "_law_deck" (defArgs st__law_deck) (defBody st__law_deck) (defScope st__law_deck) .none kV__law_deck dc__law_deck pm__law_deck an__law_deck cd__law_deck ct__law_deck) ["_law_script"] sp := fun g => g
  have S__law_draw : ∀ {k : Nat} {sp : Sp}, FnG l.prog w K mg base CX0 k f__law_draw (PySem.W.fnOf "_law_draw" "_law_draw" (defArgs st__law_draw) (defBody st__law_draw) (defScope st__law_draw) .none kV__law_draw dc__law_draw pm__law_draw an__law_draw cd__law_draw ct__law_draw) ["_law_deck_here", "_law_limit"] sp → FnG l.prog w K mg base CX0 k f__law_draw (PySem.W.fnOf "_law_draw" "_law_draw" (defArgs st__law_draw) (defBody st__law_draw) (defScope st__law_draw) .none kV__law_draw dc__law_draw pm__law_draw an__law_draw cd__law_draw ct__law_draw) ["_law_deck_here", "_law_limit"] sp := fun g => g
  have S__law_list : ∀ {k : Nat} {sp : Sp}, FnG l.prog w K mg base CX0 k f__law_list (PySem.W.fnOf "_law_list" "_law_list" (defArgs st__law_list) (defBody st__law_list) (defScope st__law_list) .none kV__law_list dc__law_list pm__law_list an__law_list cd__law_list ct__law_list) ["_law_deck_here", "_law_limit", "_law_start", "_law_length"] sp → FnG l.prog w K mg base CX0 k f__law_list (PySem.W.fnOf "_law_list" "_law_list" (defArgs st__law_list) (defBody st__law_list) (defScope st__law_list) .none kV__law_list dc__law_list pm__law_list an__law_list cd__law_list ct__law_list) ["_law_deck_here", "_law_limit", "_law_start", "_law_length"] sp := fun g => g
  have S__law_pick : ∀ {k : Nat} {sp : Sp}, FnG l.prog w K mg base CX0 k f__law_pick (PySem.W.fnOf "_law_pick" "_law_pick" (defArgs st__law_pick) (defBody st__law_pick) (defScope st__law_pick) .none kV__law_pick dc__law_pick pm__law_pick an__law_pick cd__law_pick ct__law_pick) ["_law_deck_here", "_law_items"] sp → FnG l.prog w K mg base CX0 k f__law_pick (PySem.W.fnOf "_law_pick" "_law_pick" (defArgs st__law_pick) (defBody st__law_pick) (defScope st__law_pick) .none kV__law_pick dc__law_pick pm__law_pick an__law_pick cd__law_pick ct__law_pick) ["_law_deck_here", "_law_items"] sp := fun g => g
  have S__law_values : ∀ {k : Nat} {sp : Sp}, FnG l.prog w K mg base CX0 k f__law_values (PySem.W.fnOf "_law_values" "_law_values" (defArgs st__law_values) (defBody st__law_values) (defScope st__law_values) .none kV__law_values dc__law_values pm__law_values an__law_values cd__law_values ct__law_values) ["_law_letter", "_law_limit"] sp → FnG l.prog w K mg base CX0 k f__law_values (PySem.W.fnOf "_law_values" "_law_values" (defArgs st__law_values) (defBody st__law_values) (defScope st__law_values) .none kV__law_values dc__law_values pm__law_values an__law_values cd__law_values ct__law_values) ["_law_letter", "_law_limit"] sp := fun g => g
  have S__law_heard : ∀ {k : Nat} {sp : Sp}, FnG l.prog w K mg base CX0 k f__law_heard (PySem.W.fnOf "_law_heard" "_law_heard" (defArgs st__law_heard) (defBody st__law_heard) (defScope st__law_heard) .none kV__law_heard dc__law_heard pm__law_heard an__law_heard cd__law_heard ct__law_heard) ["_law_deck_here", "_law_limit", "_law_length", "_law_bound"] sp → FnG l.prog w K mg base CX0 k f__law_heard (PySem.W.fnOf "_law_heard" "_law_heard" (defArgs st__law_heard) (defBody st__law_heard) (defScope st__law_heard) .none kV__law_heard dc__law_heard pm__law_heard an__law_heard cd__law_heard ct__law_heard) ["_law_deck_here", "_law_limit", "_law_length", "_law_bound"] sp := fun g => g
  have S__law_is_list : ∀ {k : Nat} {sp : Sp}, FnG l.prog w K mg base CX0 k f__law_is_list (PySem.W.fnOf "_law_is_list" "_law_is_list" (defArgs st__law_is_list) (defBody st__law_is_list) (defScope st__law_is_list) .none kV__law_is_list dc__law_is_list pm__law_is_list an__law_is_list cd__law_is_list ct__law_is_list) ["_law_thing", "_law_length", "_law_limit"] sp → FnG l.prog w K mg base CX0 k f__law_is_list (PySem.W.fnOf "_law_is_list" "_law_is_list" (defArgs st__law_is_list) (defBody st__law_is_list) (defScope st__law_is_list) .none kV__law_is_list dc__law_is_list pm__law_is_list an__law_is_list cd__law_is_list ct__law_is_list) ["_law_thing", "_law_length", "_law_limit"] sp := fun g => g
  have S__law_due : ∀ {k : Nat} {sp : Sp}, FnG l.prog w K mg base CX0 k f__law_due (PySem.W.fnOf "_law_due" "_law_due" (defArgs st__law_due) (defBody st__law_due) (defScope st__law_due) .none kV__law_due dc__law_due pm__law_due an__law_due cd__law_due ct__law_due) ["_law_heard_here", "_law_limit", "_law_bound"] sp → FnG l.prog w K mg base CX0 k f__law_due (PySem.W.fnOf "_law_due" "_law_due" (defArgs st__law_due) (defBody st__law_due) (defScope st__law_due) .none kV__law_due dc__law_due pm__law_due an__law_due cd__law_due ct__law_due) ["_law_heard_here", "_law_limit", "_law_bound"] sp := fun g => g
  have S_ListSearch___init__ : ∀ {k : Nat} {sp : Sp}, FnG l.prog w K mg base CX0 k f_ListSearch___init__ (PySem.W.fnOf "__init__" "ListSearch.__init__" (defArgs st_ListSearch___init__) (defBody st_ListSearch___init__) (defScope st_ListSearch___init__) .none kV_ListSearch___init__ dc_ListSearch___init__ pm_ListSearch___init__ an_ListSearch___init__ cd_ListSearch___init__ ct_ListSearch___init__) ["self", "known", "width", "start", "other"] sp → FnG l.prog w K mg base CX0 k f_ListSearch___init__ (PySem.W.fnOf "__init__" "ListSearch.__init__" (defArgs st_ListSearch___init__) (defBody st_ListSearch___init__) (defScope st_ListSearch___init__) .none kV_ListSearch___init__ dc_ListSearch___init__ pm_ListSearch___init__ an_ListSearch___init__ cd_ListSearch___init__ ct_ListSearch___init__) ["self", "known", "width", "start", "other"] sp := fun g => g
  have S_next_symbols : ∀ {k : Nat} {sp : Sp}, FnG l.prog w K mg base CX0 k f_next_symbols (PySem.W.fnOf "next_symbols" "next_symbols" (defArgs st_next_symbols) (defBody st_next_symbols) (defScope st_next_symbols) .none kV_next_symbols dc_next_symbols pm_next_symbols an_next_symbols cd_next_symbols ct_next_symbols) ["known", "symbols"] sp → FnG l.prog w K mg base CX0 k f_next_symbols (PySem.W.fnOf "next_symbols" "next_symbols" (defArgs st_next_symbols) (defBody st_next_symbols) (defScope st_next_symbols) .none kV_next_symbols dc_next_symbols pm_next_symbols an_next_symbols cd_next_symbols ct_next_symbols) ["known", "symbols"] sp := fun g => g
  have S_ListSearch_candidates : ∀ {k : Nat} {sp : Sp}, FnG l.prog w K mg base CX0 k f_ListSearch_candidates (PySem.W.fnOf "candidates" "ListSearch.candidates" (defArgs st_ListSearch_candidates) (defBody st_ListSearch_candidates) (defScope st_ListSearch_candidates) .none kV_ListSearch_candidates dc_ListSearch_candidates pm_ListSearch_candidates an_ListSearch_candidates cd_ListSearch_candidates ct_ListSearch_candidates) ["self", "symbols"] sp → FnG l.prog w K mg base CX0 k f_ListSearch_candidates (PySem.W.fnOf "candidates" "ListSearch.candidates" (defArgs st_ListSearch_candidates) (defBody st_ListSearch_candidates) (defScope st_ListSearch_candidates) .none kV_ListSearch_candidates dc_ListSearch_candidates pm_ListSearch_candidates an_ListSearch_candidates cd_ListSearch_candidates ct_ListSearch_candidates) ["self", "symbols"] sp := fun g => g
  have S_ListSearch_is_possible : ∀ {k : Nat} {sp : Sp}, FnG l.prog w K mg base CX0 k f_ListSearch_is_possible (PySem.W.fnOf "is_possible" "ListSearch.is_possible" (defArgs st_ListSearch_is_possible) (defBody st_ListSearch_is_possible) (defScope st_ListSearch_is_possible) .none kV_ListSearch_is_possible dc_ListSearch_is_possible pm_ListSearch_is_possible an_ListSearch_is_possible cd_ListSearch_is_possible ct_ListSearch_is_possible) ["self", "number", "is_same"] sp → FnG l.prog w K mg base CX0 k f_ListSearch_is_possible (PySem.W.fnOf "is_possible" "ListSearch.is_possible" (defArgs st_ListSearch_is_possible) (defBody st_ListSearch_is_possible) (defScope st_ListSearch_is_possible) .none kV_ListSearch_is_possible dc_ListSearch_is_possible pm_ListSearch_is_possible an_ListSearch_is_possible cd_ListSearch_is_possible ct_ListSearch_is_possible) ["self", "number", "is_same"] sp := fun g => g
  have S_ListSearch_descend : ∀ {k : Nat} {sp : Sp}, FnG l.prog w K mg base CX0 k f_ListSearch_descend (PySem.W.fnOf "descend" "ListSearch.descend" (defArgs st_ListSearch_descend) (defBody st_ListSearch_descend) (defScope st_ListSearch_descend) .none kV_ListSearch_descend dc_ListSearch_descend pm_ListSearch_descend an_ListSearch_descend cd_ListSearch_descend ct_ListSearch_descend) ["self", "symbols", "count", "most"] sp → FnG l.prog w K mg base CX0 k f_ListSearch_descend (PySem.W.fnOf "descend" "ListSearch.descend" (defArgs st_ListSearch_descend) (defBody st_ListSearch_descend) (defScope st_ListSearch_descend) .none kV_ListSearch_descend dc_ListSearch_descend pm_ListSearch_descend an_ListSearch_descend cd_ListSearch_descend ct_ListSearch_descend) ["self", "symbols", "count", "most"] sp := fun g => g
  have S_is_integer : ∀ {k : Nat} {sp : Sp}, FnG l.prog w K mg base CX0 k f_is_integer (PySem.W.fnOf "is_integer" "is_integer" (defArgs st_is_integer) (defBody st_is_integer) (defScope st_is_integer) .none kV_is_integer dc_is_integer pm_is_integer an_is_integer cd_is_integer ct_is_integer) ["thing"] sp → FnG l.prog w K mg base CX0 k f_is_integer (PySem.W.fnOf "is_integer" "is_integer" (defArgs st_is_integer) (defBody st_is_integer) (defScope st_is_integer) .none kV_is_integer dc_is_integer pm_is_integer an_is_integer cd_is_integer ct_is_integer) ["thing"] sp := fun g => g
  have S_is_index : ∀ {k : Nat} {sp : Sp}, FnG l.prog w K mg base CX0 k f_is_index (PySem.W.fnOf "is_index" "is_index" (defArgs st_is_index) (defBody st_is_index) (defScope st_is_index) .none kV_is_index dc_is_index pm_is_index an_is_index cd_is_index ct_is_index) ["thing", "limit"] sp → FnG l.prog w K mg base CX0 k f_is_index (PySem.W.fnOf "is_index" "is_index" (defArgs st_is_index) (defBody st_is_index) (defScope st_is_index) .none kV_is_index dc_is_index pm_is_index an_is_index cd_is_index ct_is_index) ["thing", "limit"] sp := fun g => g
  have S_is_symbol_list : ∀ {k : Nat} {sp : Sp}, FnG l.prog w K mg base CX0 k f_is_symbol_list (PySem.W.fnOf "is_symbol_list" "is_symbol_list" (defArgs st_is_symbol_list) (defBody st_is_symbol_list) (defScope st_is_symbol_list) .none kV_is_symbol_list dc_is_symbol_list pm_is_symbol_list an_is_symbol_list cd_is_symbol_list ct_is_symbol_list) ["thing", "length", "width"] sp → FnG l.prog w K mg base CX0 k f_is_symbol_list (PySem.W.fnOf "is_symbol_list" "is_symbol_list" (defArgs st_is_symbol_list) (defBody st_is_symbol_list) (defScope st_is_symbol_list) .none kV_is_symbol_list dc_is_symbol_list pm_is_symbol_list an_is_symbol_list cd_is_symbol_list ct_is_symbol_list) ["thing", "length", "width"] sp := fun g => g
  have S_lists_heard : ∀ {k : Nat} {sp : Sp}, FnG l.prog w K mg base CX0 k f_lists_heard (PySem.W.fnOf "lists_heard" "lists_heard" (defArgs st_lists_heard) (defBody st_lists_heard) (defScope st_lists_heard) .none kV_lists_heard dc_lists_heard pm_lists_heard an_lists_heard cd_lists_heard ct_lists_heard) ["letters", "width"] sp → FnG l.prog w K mg base CX0 k f_lists_heard (PySem.W.fnOf "lists_heard" "lists_heard" (defArgs st_lists_heard) (defBody st_lists_heard) (defScope st_lists_heard) .none kV_lists_heard dc_lists_heard pm_lists_heard an_lists_heard cd_lists_heard ct_lists_heard) ["letters", "width"] sp := fun g => g
  have S_ListSearch_fix : ∀ {k : Nat} {sp : Sp}, FnG l.prog w K mg base CX0 k f_ListSearch_fix (PySem.W.fnOf "fix" "ListSearch.fix" (defArgs st_ListSearch_fix) (defBody st_ListSearch_fix) (defScope st_ListSearch_fix) .none kV_ListSearch_fix dc_ListSearch_fix pm_ListSearch_fix an_ListSearch_fix cd_ListSearch_fix ct_ListSearch_fix) ["self", "number", "is_same"] sp → FnG l.prog w K mg base CX0 k f_ListSearch_fix (PySem.W.fnOf "fix" "ListSearch.fix" (defArgs st_ListSearch_fix) (defBody st_ListSearch_fix) (defScope st_ListSearch_fix) .none kV_ListSearch_fix dc_ListSearch_fix pm_ListSearch_fix an_ListSearch_fix cd_ListSearch_fix ct_ListSearch_fix) ["self", "number", "is_same"] sp := fun g => g
  have S_ListCode_fewest : ∀ {k : Nat} {sp : Sp}, FnG l.prog w K mg base CX0 k f_ListCode_fewest (PySem.W.fnOf "fewest" "ListCode.fewest" (defArgs st_ListCode_fewest) (defBody st_ListCode_fewest) (defScope st_ListCode_fewest) .none (.ref kd_ListCode_fewest) dc_ListCode_fewest pm_ListCode_fewest an_ListCode_fewest cd_ListCode_fewest ct_ListCode_fewest) ["self", "letters", "width", "most", "start", "other", "agree", "differ"] sp → FnG l.prog w K mg base CX0 k f_ListCode_fewest (PySem.W.fnOf "fewest" "ListCode.fewest" (defArgs st_ListCode_fewest) (defBody st_ListCode_fewest) (defScope st_ListCode_fewest) .none (.ref kd_ListCode_fewest) dc_ListCode_fewest pm_ListCode_fewest an_ListCode_fewest cd_ListCode_fewest ct_ListCode_fewest) ["self", "letters", "width", "most", "start", "other", "agree", "differ"] sp := fun g => g
  have S_ListCode_decoded : ∀ {k : Nat} {sp : Sp}, FnG l.prog w K mg base CX0 k f_ListCode_decoded (PySem.W.fnOf "decoded" "Code.decoded" (defArgs st_ListCode_decoded) (defBody st_ListCode_decoded) (defScope st_ListCode_decoded) .none kV_ListCode_decoded dc_ListCode_decoded pm_ListCode_decoded an_ListCode_decoded cd_ListCode_decoded ct_ListCode_decoded) ["self", "letters", "width", "most"] sp → FnG l.prog w K mg base CX0 k f_ListCode_decoded (PySem.W.fnOf "decoded" "Code.decoded" (defArgs st_ListCode_decoded) (defBody st_ListCode_decoded) (defScope st_ListCode_decoded) .none kV_ListCode_decoded dc_ListCode_decoded pm_ListCode_decoded an_ListCode_decoded cd_ListCode_decoded ct_ListCode_decoded) ["self", "letters", "width", "most"] sp := fun g => g
  have S_law : ∀ {k : Nat} {sp : Sp}, FnG l.prog w K mg base CX0 k fa (PySem.W.fnOf "law" "law" (defArgs st_law) (defBody st_law) (defScope st_law) .none kV_law dc_law pm_law an_law cd_law ct_law) ["_law_script"] sp → FnG l.prog w K mg base CX0 k fa (PySem.W.fnOf "law" "law" (defArgs st_law) (defBody st_law) (defScope st_law) .none kV_law dc_law pm_law an_law cd_law ct_law) ["_law_script"] sp := fun g => g
  have Q__law_deck : ∀ {k : Nat} {sp : Sp}, FnG l.prog w K mg base CX0 k f__law_deck (PySem.W.fnOf "_law_deck" "_law_deck" (defArgs st__law_deck) (defBody st__law_deck) (defScope st__law_deck) .none kV__law_deck dc__law_deck pm__law_deck an__law_deck cd__law_deck ct__law_deck) ["_law_script"] sp → Cg l.prog w K mg base CX0 k "_law_deck" sp := fun g => ⟨⟨f__law_deck, _, ["_law_script"], g, PySem.W.mg_of X G a__law_deck, k__law_deck, b__law_deck⟩⟩
  have Q__law_draw : ∀ {k : Nat} {sp : Sp}, FnG l.prog w K mg base CX0 k f__law_draw (PySem.W.fnOf "_law_draw" "_law_draw" (defArgs st__law_draw) (defBody st__law_draw) (defScope st__law_draw) .none kV__law_draw dc__law_draw pm__law_draw an__law_draw cd__law_draw ct__law_draw) ["_law_deck_here", "_law_limit"] sp → Cg l.prog w K mg base CX0 k "_law_draw" sp := fun g => ⟨⟨f__law_draw, _, ["_law_deck_here", "_law_limit"], g, PySem.W.mg_of X G a__law_draw, k__law_draw, b__law_draw⟩⟩
  have Q__law_list : ∀ {k : Nat} {sp : Sp}, FnG l.prog w K mg base CX0 k f__law_list (PySem.W.fnOf "_law_list" "_law_list" (defArgs st__law_list) (defBody st__law_list) (defScope st__law_list) .none kV__law_list dc__law_list pm__law_list an__law_list cd__law_list ct__law_list) ["_law_deck_here", "_law_limit", "_law_start", "_law_length"] sp → Cg l.prog w K mg base CX0 k "_law_list" sp := fun g => ⟨⟨f__law_list, _, ["_law_deck_here", "_law_limit", "_law_start", "_law_length"], g, PySem.W.mg_of X G a__law_list, k__law_list, b__law_list⟩⟩
  have Q__law_pick : ∀ {k : Nat} {sp : Sp}, FnG l.prog w K mg base CX0 k f__law_pick (PySem.W.fnOf "_law_pick" "_law_pick" (defArgs st__law_pick) (defBody st__law_pick) (defScope st__law_pick) .none kV__law_pick dc__law_pick pm__law_pick an__law_pick cd__law_pick ct__law_pick) ["_law_deck_here", "_law_items"] sp → Cg l.prog w K mg base CX0 k "_law_pick" sp := fun g => ⟨⟨f__law_pick, _, ["_law_deck_here", "_law_items"], g, PySem.W.mg_of X G a__law_pick, k__law_pick, b__law_pick⟩⟩
  have Q__law_values : ∀ {k : Nat} {sp : Sp}, FnG l.prog w K mg base CX0 k f__law_values (PySem.W.fnOf "_law_values" "_law_values" (defArgs st__law_values) (defBody st__law_values) (defScope st__law_values) .none kV__law_values dc__law_values pm__law_values an__law_values cd__law_values ct__law_values) ["_law_letter", "_law_limit"] sp → Cg l.prog w K mg base CX0 k "_law_values" sp := fun g => ⟨⟨f__law_values, _, ["_law_letter", "_law_limit"], g, PySem.W.mg_of X G a__law_values, k__law_values, b__law_values⟩⟩
  have Q__law_heard : ∀ {k : Nat} {sp : Sp}, FnG l.prog w K mg base CX0 k f__law_heard (PySem.W.fnOf "_law_heard" "_law_heard" (defArgs st__law_heard) (defBody st__law_heard) (defScope st__law_heard) .none kV__law_heard dc__law_heard pm__law_heard an__law_heard cd__law_heard ct__law_heard) ["_law_deck_here", "_law_limit", "_law_length", "_law_bound"] sp → Cg l.prog w K mg base CX0 k "_law_heard" sp := fun g => ⟨⟨f__law_heard, _, ["_law_deck_here", "_law_limit", "_law_length", "_law_bound"], g, PySem.W.mg_of X G a__law_heard, k__law_heard, b__law_heard⟩⟩
  have Q__law_is_list : ∀ {k : Nat} {sp : Sp}, FnG l.prog w K mg base CX0 k f__law_is_list (PySem.W.fnOf "_law_is_list" "_law_is_list" (defArgs st__law_is_list) (defBody st__law_is_list) (defScope st__law_is_list) .none kV__law_is_list dc__law_is_list pm__law_is_list an__law_is_list cd__law_is_list ct__law_is_list) ["_law_thing", "_law_length", "_law_limit"] sp → Cg l.prog w K mg base CX0 k "_law_is_list" sp := fun g => ⟨⟨f__law_is_list, _, ["_law_thing", "_law_length", "_law_limit"], g, PySem.W.mg_of X G a__law_is_list, k__law_is_list, b__law_is_list⟩⟩
  have Q__law_due : ∀ {k : Nat} {sp : Sp}, FnG l.prog w K mg base CX0 k f__law_due (PySem.W.fnOf "_law_due" "_law_due" (defArgs st__law_due) (defBody st__law_due) (defScope st__law_due) .none kV__law_due dc__law_due pm__law_due an__law_due cd__law_due ct__law_due) ["_law_heard_here", "_law_limit", "_law_bound"] sp → Cg l.prog w K mg base CX0 k "_law_due" sp := fun g => ⟨⟨f__law_due, _, ["_law_heard_here", "_law_limit", "_law_bound"], g, PySem.W.mg_of X G a__law_due, k__law_due, b__law_due⟩⟩
  have Q_next_symbols : ∀ {k : Nat} {sp : Sp}, FnG l.prog w K mg base CX0 k f_next_symbols (PySem.W.fnOf "next_symbols" "next_symbols" (defArgs st_next_symbols) (defBody st_next_symbols) (defScope st_next_symbols) .none kV_next_symbols dc_next_symbols pm_next_symbols an_next_symbols cd_next_symbols ct_next_symbols) ["known", "symbols"] sp → Cg l.prog w K mg base CX0 k "next_symbols" sp := fun g => ⟨⟨f_next_symbols, _, ["known", "symbols"], g, PySem.W.mg_of X G a_next_symbols, k_next_symbols, b_next_symbols⟩⟩
  have Q_is_integer : ∀ {k : Nat} {sp : Sp}, FnG l.prog w K mg base CX0 k f_is_integer (PySem.W.fnOf "is_integer" "is_integer" (defArgs st_is_integer) (defBody st_is_integer) (defScope st_is_integer) .none kV_is_integer dc_is_integer pm_is_integer an_is_integer cd_is_integer ct_is_integer) ["thing"] sp → Cg l.prog w K mg base CX0 k "is_integer" sp := fun g => ⟨⟨f_is_integer, _, ["thing"], g, PySem.W.mg_of X G a_is_integer, k_is_integer, b_is_integer⟩⟩
  have Q_is_index : ∀ {k : Nat} {sp : Sp}, FnG l.prog w K mg base CX0 k f_is_index (PySem.W.fnOf "is_index" "is_index" (defArgs st_is_index) (defBody st_is_index) (defScope st_is_index) .none kV_is_index dc_is_index pm_is_index an_is_index cd_is_index ct_is_index) ["thing", "limit"] sp → Cg l.prog w K mg base CX0 k "is_index" sp := fun g => ⟨⟨f_is_index, _, ["thing", "limit"], g, PySem.W.mg_of X G a_is_index, k_is_index, b_is_index⟩⟩
  have Q_is_symbol_list : ∀ {k : Nat} {sp : Sp}, FnG l.prog w K mg base CX0 k f_is_symbol_list (PySem.W.fnOf "is_symbol_list" "is_symbol_list" (defArgs st_is_symbol_list) (defBody st_is_symbol_list) (defScope st_is_symbol_list) .none kV_is_symbol_list dc_is_symbol_list pm_is_symbol_list an_is_symbol_list cd_is_symbol_list ct_is_symbol_list) ["thing", "length", "width"] sp → Cg l.prog w K mg base CX0 k "is_symbol_list" sp := fun g => ⟨⟨f_is_symbol_list, _, ["thing", "length", "width"], g, PySem.W.mg_of X G a_is_symbol_list, k_is_symbol_list, b_is_symbol_list⟩⟩
  have Q_lists_heard : ∀ {k : Nat} {sp : Sp}, FnG l.prog w K mg base CX0 k f_lists_heard (PySem.W.fnOf "lists_heard" "lists_heard" (defArgs st_lists_heard) (defBody st_lists_heard) (defScope st_lists_heard) .none kV_lists_heard dc_lists_heard pm_lists_heard an_lists_heard cd_lists_heard ct_lists_heard) ["letters", "width"] sp → Cg l.prog w K mg base CX0 k "lists_heard" sp := fun g => ⟨⟨f_lists_heard, _, ["letters", "width"], g, PySem.W.mg_of X G a_lists_heard, k_lists_heard, b_lists_heard⟩⟩
  have I_ListSearch : ∀ {k : Nat} {g : AL}, FnG l.prog w K mg base CX0 k f_ListSearch___init__ (PySem.W.fnOf "__init__" "ListSearch.__init__" (defArgs st_ListSearch___init__) (defBody st_ListSearch___init__) (defScope st_ListSearch___init__) .none kV_ListSearch___init__ dc_ListSearch___init__ pm_ListSearch___init__ an_ListSearch___init__ cd_ListSearch___init__ ct_ListSearch___init__) ["self", "known", "width", "start", "other"] (cSp K g) → Ck l.prog w K mg base CX0 k c_ListSearch 4 [] (cSp K g) := fun g => ci_of g ⟨mk_ListSearch, at_ListSearch___init__, fn_ListSearch___init__, kc_ListSearch⟩ rfl b_ListSearch___init__
  have M_ListSearch___init__ : ∀ {k : Nat} {g : AL}, FnG l.prog w K mg base CX0 k f_ListSearch___init__ (PySem.W.fnOf "__init__" "ListSearch.__init__" (defArgs st_ListSearch___init__) (defBody st_ListSearch___init__) (defScope st_ListSearch___init__) .none kV_ListSearch___init__ dc_ListSearch___init__ pm_ListSearch___init__ an_ListSearch___init__ cd_ListSearch___init__ ct_ListSearch___init__) ["self", "known", "width", "start", "other"] (cSp K g) → Cm l.prog w K mg base CX0 k c_ListSearch "__init__" (cSp K g) := fun g => cm_of g ⟨at_ListSearch___init__, fn_ListSearch___init__, k_ListSearch___init__⟩ b_ListSearch___init__
  have M_ListSearch_candidates : ∀ {k : Nat} {g : AL}, FnG l.prog w K mg base CX0 k f_ListSearch_candidates (PySem.W.fnOf "candidates" "ListSearch.candidates" (defArgs st_ListSearch_candidates) (defBody st_ListSearch_candidates) (defScope st_ListSearch_candidates) .none kV_ListSearch_candidates dc_ListSearch_candidates pm_ListSearch_candidates an_ListSearch_candidates cd_ListSearch_candidates ct_ListSearch_candidates) ["self", "symbols"] (cSp K g) → Cm l.prog w K mg base CX0 k c_ListSearch "candidates" (cSp K g) := fun g => cm_of g ⟨at_ListSearch_candidates, fn_ListSearch_candidates, k_ListSearch_candidates⟩ b_ListSearch_candidates
  have M_ListSearch_is_possible : ∀ {k : Nat} {g : AL}, FnG l.prog w K mg base CX0 k f_ListSearch_is_possible (PySem.W.fnOf "is_possible" "ListSearch.is_possible" (defArgs st_ListSearch_is_possible) (defBody st_ListSearch_is_possible) (defScope st_ListSearch_is_possible) .none kV_ListSearch_is_possible dc_ListSearch_is_possible pm_ListSearch_is_possible an_ListSearch_is_possible cd_ListSearch_is_possible ct_ListSearch_is_possible) ["self", "number", "is_same"] (cSp K g) → Cm l.prog w K mg base CX0 k c_ListSearch "is_possible" (cSp K g) := fun g => cm_of g ⟨at_ListSearch_is_possible, fn_ListSearch_is_possible, k_ListSearch_is_possible⟩ b_ListSearch_is_possible
  have M_ListSearch_descend : ∀ {k : Nat} {g : AL}, FnG l.prog w K mg base CX0 k f_ListSearch_descend (PySem.W.fnOf "descend" "ListSearch.descend" (defArgs st_ListSearch_descend) (defBody st_ListSearch_descend) (defScope st_ListSearch_descend) .none kV_ListSearch_descend dc_ListSearch_descend pm_ListSearch_descend an_ListSearch_descend cd_ListSearch_descend ct_ListSearch_descend) ["self", "symbols", "count", "most"] (cSp K g) → Cm l.prog w K mg base CX0 k c_ListSearch "descend" (cSp K g) := fun g => cm_of g ⟨at_ListSearch_descend, fn_ListSearch_descend, k_ListSearch_descend⟩ b_ListSearch_descend
  have M_ListSearch_fix : ∀ {k : Nat} {g : AL}, FnG l.prog w K mg base CX0 k f_ListSearch_fix (PySem.W.fnOf "fix" "ListSearch.fix" (defArgs st_ListSearch_fix) (defBody st_ListSearch_fix) (defScope st_ListSearch_fix) .none kV_ListSearch_fix dc_ListSearch_fix pm_ListSearch_fix an_ListSearch_fix cd_ListSearch_fix ct_ListSearch_fix) ["self", "number", "is_same"] (cSp K g) → Cm l.prog w K mg base CX0 k c_ListSearch "fix" (cSp K g) := fun g => cm_of g ⟨at_ListSearch_fix, fn_ListSearch_fix, k_ListSearch_fix⟩ b_ListSearch_fix
  have MK_ListCode_fewest : ∀ {k : Nat} {g : AL}, FnG l.prog w K mg base CX0 k f_ListCode_fewest (PySem.W.fnOf "fewest" "ListCode.fewest" (defArgs st_ListCode_fewest) (defBody st_ListCode_fewest) (defScope st_ListCode_fewest) .none (.ref kd_ListCode_fewest) dc_ListCode_fewest pm_ListCode_fewest an_ListCode_fewest cd_ListCode_fewest ct_ListCode_fewest) ["self", "letters", "width", "most", "start", "other", "agree", "differ"] (cSp K g) → Cmk l.prog w K mg base CX0 k c_ListCode "fewest" 1 ["width", "most"] (cSp K (askD 1 2 [0, 1, 2, 3, 4, 5] [.kt [], .non, .non, .non] g)) := fun g => cmkD_of (ks := ["width", "most"]) (D := kd_ListCode_fewest) (ms := [("start", .ref kt_ListCode_fewest_start), ("other", .non), ("agree", .non), ("differ", .non)]) (dp := [.kt [], .non, .non, .non]) [0, 1, 2, 3, 4, 5] g ⟨at_ListCode_fewest, fn_ListCode_fewest, k_ListCode_fewest⟩
      (fun q hq => by
        simp only [List.mem_cons, List.not_mem_nil, or_false] at hq
        rcases hq with rfl | rfl | rfl | rfl
        · exact ⟨_, kf_ListCode_fewest_start, rfl⟩
        · exact ⟨_, kf_ListCode_fewest_other, rfl⟩
        · exact ⟨_, kf_ListCode_fewest_agree, rfl⟩
        · exact ⟨_, kf_ListCode_fewest_differ, rfl⟩)
      (fun I ad => (.cons (.kt (ktup_of kl_ListCode_fewest_start (by show 0 ≤ sizeLine; decide) .nil) .nil) (.cons .non (.cons .non (.cons .non .nil)))))
      (fun us mv ws hu hm hw => match us, hu, mv, hm, ws, hw with | [_, _], _, [_, _, _, _], _, [_, _], _ => ⟨_, _, _, _, _, _, rfl, rfl, ⟨_, _, _, _, _, _, rfl, rfl, ⟨_, _, _, _, _, _, rfl, rfl, ⟨_, _, _, _, _, _, rfl, rfl, rfl⟩⟩⟩⟩)
  have MK_ListCode_decoded : ∀ {k : Nat} {g : AL}, FnG l.prog w K mg base CX0 k f_ListCode_decoded (PySem.W.fnOf "decoded" "Code.decoded" (defArgs st_ListCode_decoded) (defBody st_ListCode_decoded) (defScope st_ListCode_decoded) .none kV_ListCode_decoded dc_ListCode_decoded pm_ListCode_decoded an_ListCode_decoded cd_ListCode_decoded ct_ListCode_decoded) ["self", "letters", "width", "most"] (cSp K g) → Cmk l.prog w K mg base CX0 k c_ListCode "decoded" 0 ["most", "width", "letters"] (cSp K (askM 0 3 [2, 1, 0] g)) := fun g => cmk_of (ks := ["most", "width", "letters"]) [2, 1, 0] g ⟨at_ListCode_decoded, fn_ListCode_decoded, k_ListCode_decoded⟩ (fun s us ws hu hw => match us, hu, ws, hw with | [_], _, [_, _, _], _ => .of_eq rfl)
  have MK_ListCode_decoded1 : ∀ {k : Nat} {g : AL}, FnG l.prog w K mg base CX0 k f_ListCode_decoded (PySem.W.fnOf "decoded" "Code.decoded" (defArgs st_ListCode_decoded) (defBody st_ListCode_decoded) (defScope st_ListCode_decoded) .none kV_ListCode_decoded dc_ListCode_decoded pm_ListCode_decoded an_ListCode_decoded cd_ListCode_decoded ct_ListCode_decoded) ["self", "letters", "width", "most"] (cSp K g) → Cmk l.prog w K mg base CX0 k c_ListCode "decoded" 1 ["width", "most"] (cSp K (askM 1 2 [0, 1] g)) := fun g => cmk_of (ks := ["width", "most"]) [0, 1] g ⟨at_ListCode_decoded, fn_ListCode_decoded, k_ListCode_decoded⟩ (fun s us ws hu hw => match us, hu, ws, hw with | [_, _], _, [_, _], _ => .of_eq rfl)
  clear a__law_deck l__law_deck c__law_deck k__law_deck a__law_draw l__law_draw c__law_draw k__law_draw a__law_list l__law_list c__law_list k__law_list a__law_pick l__law_pick c__law_pick k__law_pick a__law_values l__law_values c__law_values k__law_values a__law_heard l__law_heard c__law_heard k__law_heard a__law_is_list l__law_is_list c__law_is_list k__law_is_list a__law_due l__law_due c__law_due k__law_due a_next_symbols l_next_symbols c_next_symbols k_next_symbols a_is_integer l_is_integer c_is_integer k_is_integer a_is_index l_is_index c_is_index k_is_index a_is_symbol_list l_is_symbol_list c_is_symbol_list k_is_symbol_list a_lists_heard l_lists_heard c_lists_heard k_lists_heard a_law l_law c_law k_law aC_ListSearch aC_ListCode aC_Code pg_ListSearch hd_ListSearch po_ListSearch sa_ListSearch ha_ListSearch hm_ListSearch no_ListSearch_lists_known no_ListSearch_width_allowed no_ListSearch_start_wanted no_ListSearch_other_unwanted no_ListSearch_rounds_fixed no_ListSearch_best_found pg_ListCode hd_ListCode po_ListCode sa_ListCode ha_ListCode hm_ListCode hnO htO mk_ListSearch kc_ListSearch mk_ListCode kc_ListCode in_ListCode at_ListSearch___init__ fn_ListSearch___init__ l_ListSearch___init__ c_ListSearch___init__ k_ListSearch___init__ at_ListSearch_candidates fn_ListSearch_candidates l_ListSearch_candidates c_ListSearch_candidates k_ListSearch_candidates at_ListSearch_is_possible fn_ListSearch_is_possible l_ListSearch_is_possible c_ListSearch_is_possible k_ListSearch_is_possible at_ListSearch_descend fn_ListSearch_descend l_ListSearch_descend c_ListSearch_descend k_ListSearch_descend at_ListSearch_fix fn_ListSearch_fix l_ListSearch_fix c_ListSearch_fix k_ListSearch_fix at_ListCode_fewest fn_ListCode_fewest l_ListCode_fewest kf_ListCode_fewest_start kl_ListCode_fewest_start kf_ListCode_fewest_other kf_ListCode_fewest_agree kf_ListCode_fewest_differ c_ListCode_fewest k_ListCode_fewest at_ListCode_decoded fn_ListCode_decoded l_ListCode_decoded c_ListCode_decoded k_ListCode_decoded z_all z_bool z_enumerate z_int z_isinstance z_len z_list z_range z_repr z_sorted z_tuple rd_Code gc_Code cv_Code_LONGEST b__law_deck b__law_draw b__law_list b__law_pick b__law_values b__law_heard b__law_is_list b__law_due b_ListSearch___init__ b_next_symbols b_ListSearch_candidates b_ListSearch_is_possible b_ListSearch_descend b_is_integer b_is_index b_is_symbol_list b_lists_heard b_ListSearch_fix b_law
  have g_src := S__law_deck (ok_source (n := 0) T F__law_deck)
  have g_drw := S__law_draw (ok_drwW (n := 0) T F__law_draw)
  have q_drwW := Q__law_draw g_drw
  have q_drw := Q__law_draw (drw_weak g_drw)
  have g_pck := S__law_pick (ok_pck (n := 1) T q_drw F__law_pick)
  have g_lst := S__law_list (lst_weak (ok_lst0 (n := 1) T q_drwW F__law_list))
  have g_val := S__law_values (ok_val (n := 0) T F__law_values)
  have g_iit := S_is_integer (ok_iit (n := 0) T F_is_integer)
  have g_iix := S_is_index (ok_iix (n := 1) T (Q_is_integer g_iit) F_is_index)
  have g_sml := S_is_symbol_list (ok_sml (n := 2) T (Q_is_index g_iix) F_is_symbol_list)
  have g_lhd := S_lists_heard (ok_lhd (n := 3) T (Q_is_symbol_list g_sml) F_lists_heard)
  have g_nxs := S_next_symbols (ok_nxs (n := 0) T F_next_symbols)
  have g_cnd := S_ListSearch_candidates (cnd_weak (ok_cnd0 (n := 1) T (Q_next_symbols g_nxs) F_ListSearch_candidates))
  have g_isp := S_ListSearch_is_possible (ok_isp (n := 0) T F_ListSearch_is_possible)
  have g_ini := S_ListSearch___init__ (ok_ini (n := 0) T F_ListSearch___init__)
  have g_dsc := rec_fn (P := l.prog) (w := w) (K := K) (mg := mg) (base := base) (n := 2) (asp := asp_dsc _) (fun d prev hp g => ok_dsc_step (n := 2 + d) T d hp (M_ListSearch_candidates (g_cnd.mono (by omega))) (M_ListSearch_is_possible (g_isp.mono (by omega))) (M_ListSearch_descend g) F_ListSearch_descend)
  have g_fix := S_ListSearch_fix (fnG_no (k := 0) (g := fun _ _ _ => False) fun _ _ _ h => h)
  have g_few := S_ListCode_fewest (few_weak (ok_few0 (n := 33) T (d := 30) (by decide) (I_ListSearch (g_ini.mono (by omega))) (M_ListSearch_descend (g_dsc 30)) (Q_lists_heard (g_lhd.mono (by omega))) (M_ListSearch_fix (g_fix.mono (by omega))) F_ListCode_fewest))
  have g_dcd := S_ListCode_decoded (ok_dcd (n := 35) T (MK_ListCode_fewest g_few) F_ListCode_decoded)
  have g_hrd := S__law_heard (hrd_weak (ok_hrd0 (n := 3) T (Q__law_list (g_lst.mono (by omega))) (Q__law_draw (g_drw.mono (by omega))) (Q__law_pick (g_pck.mono (by omega))) (Q__law_values (g_val.mono (by omega))) F__law_heard))
  have g_isl := S__law_is_list (ok_isl (n := 0) T F__law_is_list)
  have g_due := S__law_due (ok_due (n := 1) T (Q__law_is_list g_isl) F__law_due)
  exact (ok_law (n := 36) T (Q__law_deck (g_src.mono (by omega))) (Q__law_draw ((drw_weak g_drw).mono (by omega))) (Q__law_heard (g_hrd.mono (by omega))) (Q__law_due (g_due.mono (by omega)))
    (MK_ListCode_decoded g_dcd) (MK_ListCode_decoded1 g_dcd) F_law).mono (by omega)
end K16
open PySem PySem.W PyProof.Rows in
set_option maxRecDepth 100000 in
set_option maxHeartbeats 0 in
theorem PySem.Challenge.cw_lyingwire_k16_long_lists_and_letters_of_holds : PySem.Challenge.rw_lyingwire_k16_long_lists_and_letters_of.Holds := by
  w_on; o_law; k_head; (case hw => w_witness2)
  k_fill
  refine L3.walk_ofG (l := PySem.Challenge.rw_lyingwire_k16_long_lists_and_letters_of) (n := 63) (k := 60) (x := "_law_script") (sp := fun K => L5.cSp K K16.asp_law) rfl (by decide) rfl ⟨rfl, by decide, by decide⟩ (fun w h Y => PySem.W.kIn_of Y) ?F (fun _ H a ns hl hS _ => L5.law_start hS ⟨ns, rfl, rfl, hl, fun _ => rfl⟩)
  case F =>
    intro w mg fa h KX G hmg
    refine' K16.all_mk KX G hmg ?a__law_deck ?l__law_deck ?c__law_deck ?k__law_deck ?a__law_draw ?l__law_draw ?c__law_draw ?k__law_draw ?a__law_list ?l__law_list ?c__law_list ?k__law_list ?a__law_pick ?l__law_pick ?c__law_pick ?k__law_pick ?a__law_values ?l__law_values ?c__law_values ?k__law_values ?a__law_heard ?l__law_heard ?c__law_heard ?k__law_heard ?a__law_is_list ?l__law_is_list ?c__law_is_list ?k__law_is_list ?a__law_due ?l__law_due ?c__law_due ?k__law_due ?a_next_symbols ?l_next_symbols ?c_next_symbols ?k_next_symbols ?a_is_integer ?l_is_integer ?c_is_integer ?k_is_integer ?a_is_index ?l_is_index ?c_is_index ?k_is_index ?a_is_symbol_list ?l_is_symbol_list ?c_is_symbol_list ?k_is_symbol_list ?a_lists_heard ?l_lists_heard ?c_lists_heard ?k_lists_heard ?a_law ?l_law ?c_law ?k_law ?aC_ListSearch ?aC_ListCode ?aC_Code ?pg_ListSearch ?hd_ListSearch ?po_ListSearch ?sa_ListSearch ?ha_ListSearch ?hm_ListSearch ?no_ListSearch_lists_known ?no_ListSearch_width_allowed ?no_ListSearch_start_wanted ?no_ListSearch_other_unwanted ?no_ListSearch_rounds_fixed ?no_ListSearch_best_found ?pg_ListCode ?hd_ListCode ?po_ListCode ?sa_ListCode ?ha_ListCode ?hm_ListCode ?hnO ?htO ?mk_ListSearch ?kc_ListSearch ?mk_ListCode ?kc_ListCode ?in_ListCode ?at_ListSearch___init__ ?fn_ListSearch___init__ ?l_ListSearch___init__ ?c_ListSearch___init__ ?k_ListSearch___init__ ?at_ListSearch_candidates ?fn_ListSearch_candidates ?l_ListSearch_candidates ?c_ListSearch_candidates ?k_ListSearch_candidates ?at_ListSearch_is_possible ?fn_ListSearch_is_possible ?l_ListSearch_is_possible ?c_ListSearch_is_possible ?k_ListSearch_is_possible ?at_ListSearch_descend ?fn_ListSearch_descend ?l_ListSearch_descend ?c_ListSearch_descend ?k_ListSearch_descend ?at_ListSearch_fix ?fn_ListSearch_fix ?l_ListSearch_fix ?c_ListSearch_fix ?k_ListSearch_fix ?at_ListCode_fewest ?fn_ListCode_fewest ?l_ListCode_fewest ?kf_ListCode_fewest_start ?kl_ListCode_fewest_start ?kf_ListCode_fewest_other ?kf_ListCode_fewest_agree ?kf_ListCode_fewest_differ ?c_ListCode_fewest ?k_ListCode_fewest ?at_ListCode_decoded ?fn_ListCode_decoded ?l_ListCode_decoded ?c_ListCode_decoded ?k_ListCode_decoded ?z_all ?z_bool ?z_enumerate ?z_int ?z_isinstance ?z_len ?z_list ?z_range ?z_repr ?z_sorted ?z_tuple ?rd_Code ?gc_Code ?cv_Code_LONGEST
    (case a__law_deck => k_is)
    (case l__law_deck => k_is)
    (case c__law_deck => k_is)
    (case k__law_deck => k_is)
    (case a__law_draw => k_is)
    (case l__law_draw => k_is)
    (case c__law_draw => k_is)
    (case k__law_draw => k_is)
    (case a__law_list => k_is)
    (case l__law_list => k_is)
    (case c__law_list => k_is)
    (case k__law_list => k_is)
    (case a__law_pick => k_is)
    (case l__law_pick => k_is)
    (case c__law_pick => k_is)
    (case k__law_pick => k_is)
    (case a__law_values => k_is)
    (case l__law_values => k_is)
    (case c__law_values => k_is)
    (case k__law_values => k_is)
    (case a__law_heard => k_is)
    (case l__law_heard => k_is)
    (case c__law_heard => k_is)
    (case k__law_heard => k_is)
    (case a__law_is_list => k_is)
    (case l__law_is_list => k_is)
    (case c__law_is_list => k_is)
    (case k__law_is_list => k_is)
    (case a__law_due => k_is)
    (case l__law_due => k_is)
    (case c__law_due => k_is)
    (case k__law_due => k_is)
    (case a_next_symbols => k_is)
    (case l_next_symbols => k_is)
    (case c_next_symbols => k_is)
    (case k_next_symbols => k_is)
    (case a_is_integer => k_is)
    (case l_is_integer => k_is)
    (case c_is_integer => k_is)
    (case k_is_integer => k_is)
    (case a_is_index => k_is)
    (case l_is_index => k_is)
    (case c_is_index => k_is)
    (case k_is_index => k_is)
    (case a_is_symbol_list => k_is)
    (case l_is_symbol_list => k_is)
    (case c_is_symbol_list => k_is)
    (case k_is_symbol_list => k_is)
    (case a_lists_heard => k_is)
    (case l_lists_heard => k_is)
    (case c_lists_heard => k_is)
    (case k_lists_heard => k_is)
    (case a_law => k_is)
    (case l_law => k_is)
    (case c_law => k_is)
    (case k_law => k_is)
    (case aC_ListSearch => k_is)
    (case aC_ListCode => k_is)
    (case aC_Code => k_is)
    (case pg_ListSearch => k_is)
    (case hd_ListSearch => k_is)
    (case po_ListSearch => k_is)
    (case sa_ListSearch => k_is)
    (case ha_ListSearch => k_is)
    (case hm_ListSearch => k_is)
    (case no_ListSearch_lists_known => k_is)
    (case no_ListSearch_width_allowed => k_is)
    (case no_ListSearch_start_wanted => k_is)
    (case no_ListSearch_other_unwanted => k_is)
    (case no_ListSearch_rounds_fixed => k_is)
    (case no_ListSearch_best_found => k_is)
    (case pg_ListCode => k_is)
    (case hd_ListCode => k_is)
    (case po_ListCode => k_is)
    (case sa_ListCode => k_is)
    (case ha_ListCode => k_is)
    (case hm_ListCode => k_is)
    (case hnO => k_is)
    (case htO => k_is)
    (case mk_ListSearch => k_is)
    (case kc_ListSearch => k_is)
    (case mk_ListCode => k_is)
    (case kc_ListCode => k_is)
    (case in_ListCode => k_is)
    (case at_ListSearch___init__ => k_is)
    (case fn_ListSearch___init__ => k_is)
    (case l_ListSearch___init__ => k_is)
    (case c_ListSearch___init__ => k_is)
    (case k_ListSearch___init__ => k_is)
    (case at_ListSearch_candidates => k_is)
    (case fn_ListSearch_candidates => k_is)
    (case l_ListSearch_candidates => k_is)
    (case c_ListSearch_candidates => k_is)
    (case k_ListSearch_candidates => k_is)
    (case at_ListSearch_is_possible => k_is)
    (case fn_ListSearch_is_possible => k_is)
    (case l_ListSearch_is_possible => k_is)
    (case c_ListSearch_is_possible => k_is)
    (case k_ListSearch_is_possible => k_is)
    (case at_ListSearch_descend => k_is)
    (case fn_ListSearch_descend => k_is)
    (case l_ListSearch_descend => k_is)
    (case c_ListSearch_descend => k_is)
    (case k_ListSearch_descend => k_is)
    (case at_ListSearch_fix => k_is)
    (case fn_ListSearch_fix => k_is)
    (case l_ListSearch_fix => k_is)
    (case c_ListSearch_fix => k_is)
    (case k_ListSearch_fix => k_is)
    (case at_ListCode_fewest => k_is)
    (case fn_ListCode_fewest => k_is)
    (case l_ListCode_fewest => k_is)
    (case kf_ListCode_fewest_start => k_is)
    (case kl_ListCode_fewest_start => k_is)
    (case kf_ListCode_fewest_other => k_is)
    (case kf_ListCode_fewest_agree => k_is)
    (case kf_ListCode_fewest_differ => k_is)
    (case c_ListCode_fewest => k_is)
    (case k_ListCode_fewest => k_is)
    (case at_ListCode_decoded => k_is)
    (case fn_ListCode_decoded => k_is)
    (case l_ListCode_decoded => k_is)
    (case c_ListCode_decoded => k_is)
    (case k_ListCode_decoded => k_is)
    (case z_all => k_is)
    (case z_bool => k_is)
    (case z_enumerate => k_is)
    (case z_int => k_is)
    (case z_isinstance => k_is)
    (case z_len => k_is)
    (case z_list => k_is)
    (case z_range => k_is)
    (case z_repr => k_is)
    (case z_sorted => k_is)
    (case z_tuple => k_is)
    (case rd_Code => k_is)
    (case gc_Code => k_is)
    (case cv_Code_LONGEST => k_is)

